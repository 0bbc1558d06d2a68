import PyProof.Rows.All
import Wide.All
import OpenK.AllK
import Wide.FinOn
import Lean
import PySem.Challenge.RW_sm0077_01
open PySem PySem.W PyProof.Rows
set_option Elab.async false
set_option maxRecDepth 100000
set_option maxHeartbeats 8000000 in
open_top hd for PySem.Challenge.rw_sm0077_01
namespace Mine
local macro_rules | `(tactic| walk_at $s:str) => `(tactic| k_extra $(Lean.Syntax.mkStrLit ("m " ++ s.getString)))
local macro_rules | `(tactic| cell_enter) => `(tactic| k_extra "m cell_enter")
local macro_rules | `(tactic| mul_fits) => `(tactic| k_extra "m mul_fits")
local macro_rules | `(tactic| bits_fit) => `(tactic| k_extra "m bits_fit")
local macro_rules | `(tactic| k_all) => `(tactic| k_extra "m k_all")
section
open PySem.Calls
theorem un3 {a b c d n : Nat} (h : a + b < n) (e : Nat.ble (c + d) b = true) : a + c + d < n := by
  have := Nat.le_of_ble_eq_true e
  omega
abbrev Claim (w : World) (s₀ : Shared) (mg mb : Str → Option Value) (f : Addr) (vs : List Value) (dep : Nat) (news : List (Addr × Obj))
   (Ret : Heap → Addr → (Str → Option Value) → Shared → (Value → Shared → Prop) → Prop) : Prop :=
  ∀ (dp un : Nat) (gd : Option (List Code)) (cn : Str) (cs : Scope) (a : Addr) (ccd : Value) (cl : List (Str × Addr)) (outer : List Env) (A₀ : Around) (base h₀ : Heap) (L : Addr) (m : Str → Option Value) (s : Shared) (Q E : Value → Shared → Prop),
    Below A₀ base outer h₀ → Fr h₀ L s.heap m → (hd.heap_39 w.params).In h₀ → News h₀ L s.heap news → Top hd.view_39 (looseW hd.view_39 [Str.ofString "MOST", Str.ofString "number_of"]) (ExcName.means s₀.heap) mg mb h₀ → cs.kind = .function →
    dp + dep < recursionLimit → un + 8 * dep < cLine → Ret h₀ L m s Q →
      wpAny (model PySem.Challenge.rw_sm0077_01.row.prog w) (ktrTop dp un gd cn cs L a ccd cl outer) (call (.ref f) vs) Q E s
theorem use {w : World} {s₀ : Shared} {mg mb : Str → Option Value} {f : Addr} {vs : List Value} {dep : Nat} {news : List (Addr × Obj)}
   {Ret : Heap → Addr → (Str → Option Value) → Shared → (Value → Shared → Prop) → Prop} (C : Claim w s₀ mg mb f vs dep news Ret)
   {dp un : Nat} {gd : Option (List Code)} {cn : Str} {cs : Scope} {a : Addr} {ccd : Value} {cl : List (Str × Addr)} {outer : List Env} {A₀ : Around} {base h₀ : Heap} {L : Addr} {m : Str → Option Value} {s : Shared} {Q E : Value → Shared → Prop}
   (B : Below A₀ base outer h₀) (F : Fr h₀ L s.heap m) (X : (hd.heap_39 w.params).In h₀) (N : News h₀ L s.heap news) (T : Top hd.view_39 (looseW hd.view_39 [Str.ofString "MOST", Str.ofString "number_of"]) (ExcName.means s₀.heap) mg mb h₀) (hk : cs.kind = .function)
   (hd : dp + dep < recursionLimit) (hu : un + 8 * dep < cLine) (hR : Ret h₀ L m s Q) :
      wpAny (model PySem.Challenge.rw_sm0077_01.row.prog w) (ktrTop dp un gd cn cs L a ccd cl outer) (call (.ref f) vs) Q E s :=
  C _ _ _ _ _ _ _ _ _ _ _ _ _ _ _ _ _ B F X N T hk hd hu hR
theorem use2 {w : World} {s₀ : Shared} {mg mb : Str → Option Value} {f : Addr} {vs : List Value} {dep : Nat} {news : List (Addr × Obj)}
   {Ret : Heap → Addr → (Str → Option Value) → Shared → (Value → Shared → Prop) → Prop}
   {dp un : Nat} {gd : Option (List Code)} {cn : Str} {cs : Scope} {a : Addr} {ccd : Value} {cl : List (Str × Addr)} {outer : List Env} {A₀ : Around} {base h₀ : Heap} {L : Addr} {m : Str → Option Value} {s : Shared} {Q E : Value → Shared → Prop}
   (B : Below A₀ base outer h₀) (F : Fr h₀ L s.heap m) (X : (hd.heap_39 w.params).In h₀) (N : News h₀ L s.heap news) (T : Top hd.view_39 (looseW hd.view_39 [Str.ofString "MOST", Str.ofString "number_of"]) (ExcName.means s₀.heap) mg mb h₀) (hk : cs.kind = .function)
   (C : Claim w s₀ mg mb f vs dep news Ret) (hd : dp + dep < recursionLimit) (hu : un + 8 * dep < cLine) (hR : Ret h₀ L m s Q) :
      wpAny (model PySem.Challenge.rw_sm0077_01.row.prog w) (ktrTop dp un gd cn cs L a ccd cl outer) (call (.ref f) vs) Q E s :=
  use C B F X N T hk hd hu hR
abbrev RetI (news : List (Addr × Obj)) (x : Int) : Heap → Addr → (Str → Option Value) → Shared → (Value → Shared → Prop) → Prop :=
  fun h₀ L m s Q => ∀ (t : Tok) (h' : Heap) (tk' : Nat), Fr h₀ L h' m → News h₀ L h' news → Q (.int x t) { s with heap := h', toks := tk' }
abbrev tup (x : Int) (t1 : Tok) (y : Int) (t2 : Tok) (c : Nat) : Obj := { cls := .type "tuple", data := .seq #[.int x t1, .int y t2] c }
abbrev RetT (news : List (Addr × Obj)) (x y : Int) : Heap → Addr → (Str → Option Value) → Shared → (Value → Shared → Prop) → Prop :=
  fun h₀ L m s Q => ∀ (D : Addr) (t1 t2 : Tok) (c : Nat) (h' : Heap) (tk' : Nat), Fr h₀ L h' m → News h₀ L h' ((D, tup x t1 y t2 c) :: news) → (∀ p ∈ news, p.1 < D) → Q (.ref D) { s with heap := h', toks := tk' }

def M : Int := 10000000000000000000000000000000000000000000000000000000000000000000000000000000000000000000000000000000000000000000000000000000000000000000000000000000000000000000000000000000000000000000000000000000000000000000000000000000000000000000000000000000000000000000000000000000000000000000000000000000000000000000000000000000000000000000000000000000000000000000000000000000000000000000000000000000000000000
def Rt : Int := 100000000000000000000000000000000000000000000000000000000000000000000000000000000000000000000000000000000000000000000000000000000000000000000000000000000000000000000000000000000000000000000000000000000
theorem M_pow : (10 : Int) ^ Int.toNat 400 = M := by decide +kernel
theorem Rt_pow : (10 : Int) ^ Int.toNat 200 = Rt := by decide +kernel
theorem Rt_sq : Rt * Rt = M := by decide +kernel

def bits (x : Int) : Nat := Builtin.Int.intBits x
theorem bits_le {k : Nat} {x : Int} (h : x.natAbs < 2 ^ k) : bits x ≤ k := by
  unfold bits Builtin.Int.intBits
  split
  · exact Nat.zero_le _
  · rename_i hx
    rcases Nat.eq_zero_or_pos x.natAbs with h0 | hp
    · exact absurd (by simp; omega) hx
    · exact Nat.succ_le_of_lt ((Nat.log2_lt (Nat.ne_of_gt hp)).mpr h)
theorem lt_of_bits {k : Nat} {x : Int} (h : bits x ≤ k) : x.natAbs < 2 ^ k := by
  unfold bits Builtin.Int.intBits at h
  split at h
  · rename_i h0
    have : x = 0 := by simpa using h0
    subst this
    exact Nat.two_pow_pos k
  · rename_i h0
    have hx : x.natAbs ≠ 0 := by
      intro q; apply h0; simp; omega
    exact (Nat.log2_lt hx).mp (by omega)
theorem bits_mul {j k : Nat} {a b : Int} (ha : bits a ≤ j) (hb : bits b ≤ k) : bits (a * b) ≤ j + k := by
  refine bits_le ?_
  rw [Int.natAbs_mul, Nat.pow_add]
  exact Nat.mul_lt_mul'' (lt_of_bits ha) (lt_of_bits hb)
theorem bits_add {k : Nat} {a b : Int} (ha : bits a ≤ k) (hb : bits b ≤ k) : bits (a + b) ≤ k + 1 := by
  refine bits_le ?_
  have h1 := lt_of_bits ha
  have h2 := lt_of_bits hb
  rw [Nat.pow_succ]
  omega
theorem bits_neg {k : Nat} {a : Int} (ha : bits a ≤ k) : bits (-a) ≤ k := by
  refine bits_le ?_
  have h1 := lt_of_bits ha
  omega
theorem bits_abs {k : Nat} {a b : Int} (ha : bits a ≤ k) (h : b.natAbs ≤ a.natAbs) : bits b ≤ k := by
  refine bits_le ?_
  have h1 := lt_of_bits ha
  omega
theorem mul_ok {a b : Int} (ha : bits a ≤ 1048576) (hb : bits b ≤ 1048576) : IntMulOk a b := IntMulOk.of_bits ha hb

set_option maxHeartbeats 8000000 in
theorem bound_ok (w : World) (s₀ : Shared) (mg mb : Str → Option Value) (news : List (Addr × Obj)) :
    Claim w s₀ mg mb 136 [] 1 news (RetI news M) := by
  unfold Claim RetI
  k_fill
  w_top on
  intro dp un gd cn cs a ccd cl outer A₀ base h₀ L m s Q E B F X N T hk hd hu hret
  refine wpAny_call ?_
  k_dflt cell_enter
  k_steps
  all_goals exact cb_retI hret M_pow (by assumption) (by assumption)
set_option maxHeartbeats 8000000 in
theorem root_ok (w : World) (s₀ : Shared) (mg mb : Str → Option Value) (news : List (Addr × Obj)) :
    Claim w s₀ mg mb 129 [] 1 news (RetI news Rt) := by
  unfold Claim RetI
  k_fill
  w_top on
  intro dp un gd cn cs a ccd cl outer A₀ base h₀ L m s Q E B F X N T hk hd hu hret
  refine wpAny_call ?_
  k_dflt cell_enter
  k_steps
  all_goals exact cb_retI hret Rt_pow (by assumption) (by assumption)
set_option maxHeartbeats 8000000 in
theorem sign_ok (w : World) (s₀ : Shared) (mg mb : Str → Option Value) (news : List (Addr × Obj)) (x : Int) (t : Tok) :
    Claim w s₀ mg mb 30 [.int x t] 1 news (RetI news (x.sign)) := by
  unfold Claim RetI
  k_fill
  w_top on
  intro dp un gd cn cs a ccd cl outer A₀ base h₀ L m s Q E B F X N T hk hd hu hret
  refine wpAny_call ?_
  k_dflt cell_enter
  k_steps
  all_goals refine cb_retI hret ?_ (by assumption) (by assumption)
  · exact (Int.sign_eq_one_of_pos (by assumption)).symm
  · exact (Int.sign_eq_neg_one_of_neg (by assumption)).symm
  · have : x = 0 := by omega
    subst this
    rfl
theorem cd_start {one other : Int} (h : 0 ≤ other) : 0 ≤ (if one < 0 then -one else one) ∧ 0 ≤ other ∧ Int.gcd (if one < 0 then -one else one) other = Int.gcd one other := by
  refine ⟨by split <;> omega, h, ?_⟩
  split
  · exact Int.neg_gcd
  · rfl
theorem gcd_mod {x y : Int} (h0 : 0 ≤ x) : Int.gcd y (x % y) = Int.gcd x y := by
  show Nat.gcd y.natAbs (x % y).natAbs = Nat.gcd x.natAbs y.natAbs
  rw [Int.natAbs_emod_of_nonneg h0, Nat.gcd_comm x.natAbs, Nat.gcd_rec y.natAbs x.natAbs, Nat.gcd_comm]
theorem cd_turn {x y one other : Int} (h0 : 0 ≤ x) (h1 : 0 ≤ y) (h : Int.gcd x y = Int.gcd one other) (hy : 0 < y) :
    0 ≤ y ∧ 0 ≤ Int.fmod x y ∧ Int.gcd y (Int.fmod x y) = Int.gcd one other := by
  rw [Int.fmod_eq_emod_of_nonneg x h1]
  refine ⟨h1, Int.emod_nonneg x (by omega), ?_⟩
  rw [← h, gcd_mod h0]
theorem cd_less {x y : Int} (hy : 0 < y) : (Int.fmod x y).toNat < y.toNat := by
  rw [Int.fmod_eq_emod_of_nonneg x (by omega)]
  have := Int.emod_lt_of_pos x hy
  have := Int.emod_nonneg x (show y ≠ 0 by omega)
  omega
theorem cd_end {x y one other : Int} (h0 : 0 ≤ x) (h1 : 0 ≤ y) (h : Int.gcd x y = Int.gcd one other) (hy : ¬ 0 < y) : x = (Int.gcd one other : Int) := by
  have : y = 0 := by omega
  subst this
  rw [← h, Int.gcd_zero_right]
  omega
set_option maxHeartbeats 8000000 in
theorem cd_ok (w : World) (s₀ : Shared) (mg mb : Str → Option Value) (news : List (Addr × Obj)) (one other : Int) (t1 t2 : Tok) (h0 : 0 ≤ other) :
    Claim w s₀ mg mb 23 [.int one t1, .int other t2] 1 news (RetI news (Int.gcd one other)) := by
  unfold Claim RetI
  k_fill
  w_top on
  intro dp un gd cn cs a ccd cl outer A₀ base h₀ L m s Q E B F X N T hk hd hu hret
  refine wpAny_call ?_
  k_dflt cell_enter
  k_with "exec While Compare cons nil" => k_while_given ["one", "other"] (fun one other _ x y => 0 ≤ x ∧ 0 ≤ y ∧ Int.gcd x y = Int.gcd one other) (fun one other _ x y => y.toNat) "first" "second"
  k_with "state" => first | exact cd_start (by assumption) | exact cd_turn (by assumption) (by assumption) (by assumption) (by assumption)
  k_with "measure" => exact cd_less (by assumption)
  k_steps
  all_goals exact cb_retI hret (cd_end (by assumption) (by assumption) (by assumption) (by assumption)) (by assumption) (cb_drop (by assumption) (fun _ h => List.mem_cons_of_mem _ h))
theorem bits_M : bits M ≤ 1329 := by decide +kernel
theorem bits_Rt : bits Rt ≤ 665 := by decide +kernel
theorem M_pos : 0 < M := by decide +kernel
theorem gcd_pos {x y : Int} (h : 0 < y) : (0 : Int) < (Int.gcd x y : Int) := by
  have : 0 < Int.gcd x y := Int.gcd_pos_iff.mpr (Or.inr (by omega))
  omega
theorem gcd_dvd_q {x y : Int} (h : 0 < y) : 0 < Int.fdiv y (Int.gcd x y) := by
  have hg := gcd_pos (x := x) h
  rw [Int.fdiv_eq_ediv_of_nonneg _ (by omega)]
  obtain ⟨k, hk⟩ := Int.gcd_dvd_right (a := x) (b := y)
  have : y / (Int.gcd x y : Int) = k := by
    conv => lhs; lhs; rw [hk]
    exact Int.mul_ediv_cancel_left _ (by omega)
  rw [this]
  rcases Int.lt_or_le 0 k with h1 | h1
  · exact h1
  · have h2 : (Int.gcd x y : Int) * k ≤ 0 := Int.mul_nonpos_of_nonneg_of_nonpos (by omega) h1
    omega
theorem natAbs_fdiv_le {x g : Int} (h : 0 < g) : (Int.fdiv x g).natAbs ≤ x.natAbs := by
  rw [Int.fdiv_eq_ediv_of_nonneg _ (by omega)]
  have h1 : x / g * g + x % g = x := Int.ediv_mul_add_emod x g
  have h2 := Int.emod_nonneg x (show g ≠ 0 by omega)
  have h3 := Int.emod_lt_of_pos x h
  rcases Int.lt_or_le x 0 with hx | hx
  · have h5 : x / g < 0 := Int.ediv_neg_of_neg_of_pos hx h
    have h6 : x ≤ x / g := by
      rw [Int.le_ediv_iff_mul_le h]
      have : x * g ≤ x * 1 := Int.mul_le_mul_of_nonpos_left (by omega) (by omega)
      omega
    omega
  · have h5 : 0 ≤ x / g := Int.ediv_nonneg hx (by omega)
    have h6 : x / g ≤ x := Int.ediv_le_self _ hx
    omega
theorem bits_fdiv {k : Nat} {x g : Int} (h : 0 < g) (hx : bits x ≤ k) : bits (Int.fdiv x g) ≤ k := bits_abs hx (natAbs_fdiv_le h)
abbrev RetIP (news : List (Addr × Obj)) (x : Int) (P : Prop) : Heap → Addr → (Str → Option Value) → Shared → (Value → Shared → Prop) → Prop :=
  fun h₀ L m s Q => P → ∀ (t : Tok) (h' : Heap) (tk' : Nat), Fr h₀ L h' m → News h₀ L h' news → Q (.int x t) { s with heap := h', toks := tk' }
theorem cd_ok2 (w : World) (s₀ : Shared) (mg mb : Str → Option Value) (news : List (Addr × Obj)) (one other : Int) (t1 t2 : Tok) (h0 : 0 < other) :
    Claim w s₀ mg mb 23 [.int one t1, .int other t2] 1 news (RetIP news (Int.gcd one other) (0 < (Int.gcd one other : Int))) := by
  intro dp un gd cn cs a ccd cl outer A₀ base h₀ L m s Q E B F X N T hk hd hu hret
  exact cd_ok w s₀ mg mb news one other t1 t2 (by omega) dp un gd cn cs a ccd cl outer A₀ base h₀ L m s Q E B F X N T hk hd hu (hret (gcd_pos h0))
theorem endT {news news' : List (Addr × Obj)} {x y x' y' : Int} {h₀ h' : Heap} {L D : Addr} {m : Str → Option Value} {s : Shared} {Q : Value → Shared → Prop} {t1 t2 : Tok} {c tk' : Nat}
   (hret : ∀ (D : Addr) (t1 t2 : Tok) (c : Nat) (h' : Heap) (tk' : Nat), Fr h₀ L h' m → News h₀ L h' ((D, tup x t1 y t2 c) :: news) → (∀ p ∈ news, p.1 < D) → Q (.ref D) { s with heap := h', toks := tk' })
   (e : (x', y') = (x, y)) (F : Fr h₀ L h' m) (N : News h₀ L h' news') (hm : (D, tup x' t1 y' t2 c) ∈ news') (hn : ∀ p ∈ news, p ∈ news') (hl : ∀ p ∈ news, p.1 < D) :
   Q (.ref D) { s with heap := h', toks := tk' } := by
  cases e
  exact hret D t1 t2 c h' tk' F (fun p hp => (List.mem_cons.mp hp).elim (fun e => by subst e; exact N _ hm) (fun h => N p (hn p h))) hl
theorem noPy {x y : Int} {k : Nat} (h : bits y ≤ k) (hk : k ≤ 9000) : Builtin.divisionGoesByPylong x y = false := by
  refine PyProof.noPylong_of_log2 ?_
  unfold bits Builtin.Int.intBits at h
  split at h
  · rename_i h0
    have : y = 0 := by simpa using h0
    subst this
    decide +kernel
  · omega
theorem gcd_le {x y : Int} (h : 0 < y) : (Int.gcd x y : Int) ≤ y := Int.le_of_dvd h (Int.gcd_dvd_right ..)
theorem bits_gcd {k : Nat} {x y : Int} (h : 0 < y) (hy : bits y ≤ k) : bits (Int.gcd x y : Int) ≤ k := by
  refine bits_abs hy ?_
  have := gcd_le (x := x) h
  have := gcd_pos (x := x) h
  omega
theorem bits_two {k : Nat} {x : Int} (hx : bits x ≤ k) : bits (2 * x) ≤ k + 1 := by
  refine bits_le ?_
  have h1 := lt_of_bits hx
  rw [Nat.pow_succ]
  omega
theorem bits_M0 : bits M ≤ 8000 := by decide +kernel
theorem nameM {MM : Model} {A : Around} {E : Value → Shared → Prop} {s : Shared} {K : Frag} {h₀ : Heap} {L a : Addr} {m mg mb : Str → Option Value} {cn : Str} {cs : Scope} {ccd : Value} {cl : List (Str × Addr)} {p : Program} {loose : List Str}
  {x : Str} {pos : Pos} {i : Int} {tk : Tok} {Q : Value → Shared → Prop} (F : Fr h₀ L s.heap m) (X : K.In h₀) (T : TopRead p loose mg mb h₀) (e : nsIn K mainGlobals x = some (some (.int i tk))) (hi : i = M) (h : Q (.int M tk) s)
    (hk : cs.kind = .function := by rfl) (hx : (envX cn cs L a ccd cl).kindOf x = some .globalImplicit := by rfl) (hd : (x == ("__debug__" : Str)) = false := by decide) :
    wpAny MM A (eval (.Name x pos) (envX cn cs L a ccd cl)) Q E s := by
  subst hi
  exact nameX_K F X T e h hk hx hd
theorem noPy9 {x y : Int} (h : bits y ≤ 8100) : Builtin.divisionGoesByPylong x y = false := noPy h (by decide)
theorem fdiv_M_le {x : Int} : Int.fdiv M (Int.gcd x M) ≤ M := by
  have h := natAbs_fdiv_le (x := M) (g := (Int.gcd x M : Int)) (gcd_pos M_pos)
  have := M_pos
  omega
def due1 (t b : Int) : Int × Int :=
  if (if t < 0 then -t else t) ≥ M * b then (t.sign, 0) else (Int.fdiv t (Int.gcd t b), Int.fdiv b (Int.gcd t b))
def due (t b : Int) : Int × Int :=
  if (if t < 0 then -t else t) ≥ M * b then (t.sign, 0)
  else if Int.fdiv b (Int.gcd t b) ≤ M then (Int.fdiv t (Int.gcd t b), Int.fdiv b (Int.gcd t b))
  else due1 (Int.fdiv (2 * M * t + b) (2 * b)) M
theorem due1_a {x y : Int} (h : (if x < 0 then -x else x) ≥ M * y) : (x.sign, 0) = due1 x y := by
  unfold due1; rw [if_pos h]
theorem due1_b {x y : Int} (h : ¬ (if x < 0 then -x else x) ≥ M * y) : (Int.fdiv x (Int.gcd x y), Int.fdiv y (Int.gcd x y)) = due1 x y := by
  unfold due1; rw [if_neg h]
theorem due_a {x y : Int} (h : (if x < 0 then -x else x) ≥ M * y) : (x.sign, 0) = due x y := by
  unfold due; rw [if_pos h]
theorem due_b {x y : Int} (h : ¬ (if x < 0 then -x else x) ≥ M * y) (h2 : Int.fdiv y (Int.gcd x y) ≤ M) : (Int.fdiv x (Int.gcd x y), Int.fdiv y (Int.gcd x y)) = due x y := by
  unfold due; rw [if_neg h, if_pos h2]
theorem fdiv_mul_gcd_l (x y : Int) : Int.fdiv x (Int.gcd x y) * (Int.gcd x y : Int) = x := by
  rw [Int.fdiv_eq_ediv_of_nonneg _ (by omega)]
  exact Int.ediv_mul_cancel (Int.gcd_dvd_left ..)
theorem fdiv_mul_gcd_r (x y : Int) : Int.fdiv y (Int.gcd x y) * (Int.gcd x y : Int) = y := by
  rw [Int.fdiv_eq_ediv_of_nonneg _ (by omega)]
  exact Int.ediv_mul_cancel (Int.gcd_dvd_right ..)
theorem fdiv_scale {a b c : Int} (hb : 0 < b) (hc : 0 < c) : Int.fdiv (c * a) (c * b) = Int.fdiv a b := by
  have h1 : 0 ≤ c * b := Int.mul_nonneg (by omega) (by omega)
  rw [Int.fdiv_eq_ediv_of_nonneg _ h1, Int.fdiv_eq_ediv_of_nonneg _ (by omega : 0 ≤ b)]
  exact Int.mul_ediv_mul_of_pos a b hc
theorem sh_eq {x y : Int} (hy : 0 < y) : Int.fdiv (2 * Int.fdiv x (Int.gcd x y) * M + Int.fdiv y (Int.gcd x y)) (2 * Int.fdiv y (Int.gcd x y)) = Int.fdiv (2 * M * x + y) (2 * y) := by
  have hg := gcd_pos (x := x) hy
  have hq := gcd_dvd_q (x := x) hy
  have ex := fdiv_mul_gcd_l x y
  have ey := fdiv_mul_gcd_r x y
  generalize Int.fdiv x (Int.gcd x y) = x' at *
  generalize Int.fdiv y (Int.gcd x y) = y' at *
  generalize (Int.gcd x y : Int) = g at *
  subst ex
  rw [← fdiv_scale (a := 2 * x' * M + y') (b := 2 * y') (c := g) (by omega) hg]
  congr 1
  · rw [← ey]; grind
  · rw [← ey]; grind
theorem due_c {x y : Int} (hy : 0 < y) (h : ¬ (if x < 0 then -x else x) ≥ M * y) (h2 : ¬ Int.fdiv y (Int.gcd x y) ≤ M) :
   ((due1 (Int.fdiv (2 * Int.fdiv x (Int.gcd x y) * M + Int.fdiv y (Int.gcd x y)) (2 * Int.fdiv y (Int.gcd x y))) M).1, (due1 (Int.fdiv (2 * Int.fdiv x (Int.gcd x y) * M + Int.fdiv y (Int.gcd x y)) (2 * Int.fdiv y (Int.gcd x y))) M).2) = ((due x y).1, (due x y).2) := by
  unfold due; rw [if_neg h, if_neg h2, sh_eq hy]
theorem bits_sh {x y : Int} (hy : 0 < y) (bx : bits x ≤ 6000) (by' : bits y ≤ 6000) : bits (Int.fdiv (2 * Int.fdiv x (Int.gcd x y) * M + Int.fdiv y (Int.gcd x y)) (2 * Int.fdiv y (Int.gcd x y))) ≤ 8000 := by
  have hg := gcd_pos (x := x) hy
  have hq := gcd_dvd_q (x := x) hy
  refine bits_fdiv (by omega) ?_
  have h1 : bits (2 * Int.fdiv x (Int.gcd x y) * M) ≤ 6001 + 1329 := bits_mul (bits_two (bits_fdiv hg bx)) bits_M
  have h2 : bits (Int.fdiv y (Int.gcd x y)) ≤ 6001 + 1329 := Nat.le_trans (bits_fdiv hg by') (by decide)
  exact Nat.le_trans (bits_add h1 h2) (by decide)
theorem bits_M6 : bits M ≤ 6000 := by decide +kernel
theorem powM {prog : Program} {w : World} {A : Around} {E : Value → Shared → Prop} {s : Shared} {t u : Tok} {Q : Value → Shared → Prop} (h : Q (.int (M * M) s.toks) { s with toks := s.toks + 1 }) :
    wpAny (model prog w) A (binaryOp .Pow (.int M t) (.int 2 u)) Q E s := by
  have e : M * M = M ^ (2 : Int).toNat := by
    show M * M = M ^ 2
    rw [Int.pow_succ, Int.pow_succ, Int.pow_zero, Int.one_mul]
  rw [e] at h
  exact pow_int (by decide) (by decide +kernel) h
abbrev RetB (news : List (Addr × Obj)) (x : Bool) : Heap → Addr → (Str → Option Value) → Shared → (Value → Shared → Prop) → Prop :=
  fun h₀ L m s Q => ∀ (h' : Heap) (tk' : Nat), Fr h₀ L h' m → News h₀ L h' news → Q (.bool x) { s with heap := h', toks := tk' }
theorem endB {h₀ h' : Heap} {L : Addr} {m : Str → Option Value} {news news' : List (Addr × Obj)} {s : Shared} {Q : Value → Shared → Prop} {tk' : Nat} {x y : Bool}
   (hret : ∀ (h' : Heap) (tk' : Nat), Fr h₀ L h' m → News h₀ L h' news → Q (.bool x) { s with heap := h', toks := tk' }) (e : y = x) (F : Fr h₀ L h' m) (N : News h₀ L h' news') (hn : ∀ p ∈ news, p ∈ news') : Q (.bool y) { s with heap := h', toks := tk' } := by
  subst e
  exact hret h' tk' F (fun p hp => N p (hn p hp))
end
section
open PySem.Calls
set_option maxHeartbeats 8000000 in
theorem num1_ok (w : World) (s₀ : Shared) (mg mb : Str → Option Value) (news : List (Addr × Obj)) (x y : Int) (t1 t2 : Tok) (hy : 0 < y) (bx : bits x ≤ 8000) (by' : bits y ≤ 8000) (hs : Int.fdiv y (Int.gcd x y) ≤ M) :
    Claim w s₀ mg mb 38 [.int x t1, .int y t2] 2 news (RetT news (due1 x y).1 (due1 x y).2) := by
  unfold Claim RetT
  k_with_none
  k_with "m eval Name" => ((k_here; (with_reducible show wpAny _ _ (eval (Expr.Name (Str.ofString "MOST") _) _) _ _ _); k_dflt (refine' nameM (by k_asm) (by k_asm) (by k_asm) (by k_is) (by first | rfl | decide) ?_; k_whole)))
  k_with "m cell_enter" => ((refine' code_def (by k_asm) (by k_asm) (by k_asm) (by k_asm) (by k_asm) (by exact rfl) (by exact rfl) (by assumption) (by k_is) (by k_is) (by first | exact un3 (by assumption) (by exact rfl) | ktr_room) (by exact binds_K (by k_in) rfl (by k_is) rfl rfl rfl) (by exact locs rfl) ?_ (by exact rfl) (by exact rfl) (by exact rfl) (by decide); k_whole; intro g' L' h' FG' F' N' B' X' T'; (try dsimp only); (try k_lift B'); (try k_fold)))
  k_with "m call ref" => ((k_here; (with_reducible show wpAny _ _ (call (Value.ref 23) _) _ _ _); k_dflt (refine' use2 (by k_asm) (by k_asm) (by k_asm) (by k_asm) (by k_asm) (by first | exact rfl | assumption) (cd_ok2 _ _ _ _ _ _ _ _ _ (by omega)) (by first | exact un3 (by assumption) (by exact rfl) | ktr_room) (by first | exact un3 (by assumption) (by exact rfl) | ktr_units) ?_; (dsimp only [RetIP]; intro hG' t' h' tk' F' N'; (try dsimp only); (try k_fold)))))
  k_with "m call ref" => ((k_here; (with_reducible show wpAny _ _ (call (Value.ref 30) _) _ _ _); k_dflt (refine' use2 (by k_asm) (by k_asm) (by k_asm) (by k_asm) (by k_asm) (by first | exact rfl | assumption) (sign_ok _ _ _ _ _ _ _) (by first | exact un3 (by assumption) (by exact rfl) | ktr_room) (by first | exact un3 (by assumption) (by exact rfl) | ktr_units) ?_; (dsimp only [RetI]; intro t' h' tk' F' N'; (try dsimp only); (try k_fold)))))
  k_with "m binaryOp FloorDiv int int" => ((refine' floordiv_int (by omega) ?_ (Or.inl (noPy9 (by first | assumption | exact Nat.le_trans (by assumption) (by decide))))))
  k_with "m mul_fits" => (exact mul_ok (by bits_fit) (by bits_fit))
  k_with "m bits_fit" => (first | assumption | exact Nat.le_trans (by assumption) (by decide) | exact Nat.le_trans bits_M (by decide) | exact Nat.le_trans bits_Rt (by decide))
  k_fill
  w_top on
  intro dp un gd cn cs a ccd cl outer A₀ base h₀ L m s Q E B F X N T hk hd hu hret
  have hbg : bits (Int.gcd x y : Int) ≤ 8000 := bits_gcd hy by'
  refine wpAny_call ?_
  k_dflt cell_enter
  k_steps
  all_goals first
    | exact endT hret (due1_a (by assumption)) (by assumption) (by assumption) (List.Mem.head _) (fun _ h => List.Mem.tail _ h) (by assumption)
    | (rename _ ∧ AllLt _ _ => hl9; exact endT hret (due1_b (by assumption)) (by assumption) (by assumption) (List.Mem.head _) (fun _ h => List.Mem.tail _ (List.Mem.tail _ h)) (ktn_ltOf hl9.2))
    | (exfalso; omega)
    | trace_state
set_option maxHeartbeats 8000000 in
theorem num_ok (w : World) (s₀ : Shared) (mg mb : Str → Option Value) (news : List (Addr × Obj)) (x y : Int) (t1 t2 : Tok) (hy : 0 < y) (bx : bits x ≤ 6000) (by' : bits y ≤ 6000) :
    Claim w s₀ mg mb 38 [.int x t1, .int y t2] 3 news (RetT news (due x y).1 (due x y).2) := by
  unfold Claim RetT
  k_with_none
  k_with "m eval Name" => ((k_here; (with_reducible show wpAny _ _ (eval (Expr.Name (Str.ofString "MOST") _) _) _ _ _); k_dflt (refine' nameM (by k_asm) (by k_asm) (by k_asm) (by k_is) (by first | rfl | decide) ?_; k_whole)))
  k_with "m cell_enter" => ((refine' code_def (by k_asm) (by k_asm) (by k_asm) (by k_asm) (by k_asm) (by exact rfl) (by exact rfl) (by assumption) (by k_is) (by k_is) (by first | exact un3 (by assumption) (by exact rfl) | ktr_room) (by exact binds_K (by k_in) rfl (by k_is) rfl rfl rfl) (by exact locs rfl) ?_ (by exact rfl) (by exact rfl) (by exact rfl) (by decide); k_whole; intro g' L' h' FG' F' N' B' X' T'; (try dsimp only); (try k_lift B'); (try k_fold)))
  k_with "m call ref" => ((k_here; (with_reducible show wpAny _ _ (call (Value.ref 23) _) _ _ _); k_dflt (refine' use2 (by k_asm) (by k_asm) (by k_asm) (by k_asm) (by k_asm) (by first | exact rfl | assumption) (cd_ok2 _ _ _ _ _ _ _ _ _ (by omega)) (by first | exact un3 (by assumption) (by exact rfl) | ktr_room) (by first | exact un3 (by assumption) (by exact rfl) | ktr_units) ?_; (dsimp only [RetIP]; intro hG' t' h' tk' F' N'; (try dsimp only); (try k_fold)))))
  k_with "m call ref" => ((k_here; (with_reducible show wpAny _ _ (call (Value.ref 30) _) _ _ _); k_dflt (refine' use2 (by k_asm) (by k_asm) (by k_asm) (by k_asm) (by k_asm) (by first | exact rfl | assumption) (sign_ok _ _ _ _ _ _ _) (by first | exact un3 (by assumption) (by exact rfl) | ktr_room) (by first | exact un3 (by assumption) (by exact rfl) | ktr_units) ?_; (dsimp only [RetI]; intro t' h' tk' F' N'; (try dsimp only); (try k_fold)))))
  k_with "m binaryOp FloorDiv int int" => ((refine' floordiv_int (by omega) ?_ (Or.inl (noPy9 (by first | assumption | exact Nat.le_trans (by assumption) (by decide))))))
  k_with "m mul_fits" => (exact mul_ok (by bits_fit) (by bits_fit))
  k_with "m bits_fit" => (first | assumption | exact Nat.le_trans (by assumption) (by decide) | exact Nat.le_trans bits_M (by decide) | exact Nat.le_trans bits_Rt (by decide))
  k_with "m call ref" => ((k_here; (with_reducible show wpAny _ _ (call (Value.ref 38) _) _ _ _); k_dflt (refine' use2 (by k_asm) (by k_asm) (by k_asm) (by k_asm) (by k_asm) (by first | exact rfl | assumption) (num1_ok _ _ _ _ _ _ _ _ _ (by exact M_pos) (by first | assumption | exact Nat.le_trans (by assumption) (by decide)) (by exact bits_M0) (by exact fdiv_M_le)) (by first | exact un3 (by assumption) (by exact rfl) | ktr_room) (by first | exact un3 (by assumption) (by exact rfl) | ktr_units) ?_; (dsimp only [RetT]; intro D' t1' t2' c' h' tk' F' N' l1'; (try k_lt l1'); (try dsimp only); (try k_fold)))))
  k_fill
  w_top on
  intro dp un gd cn cs a ccd cl outer A₀ base h₀ L m s Q E B F X N T hk hd hu hret

  have hbg : bits (Int.gcd x y : Int) ≤ 6000 := bits_gcd hy by'
  have hq := gcd_dvd_q (x := x) hy
  have hb2 : bits (2 * Int.fdiv x (Int.gcd x y)) ≤ 6001 := bits_two (bits_fdiv (gcd_pos hy) bx)
  have hb3 : bits (2 * Int.fdiv y (Int.gcd x y)) ≤ 6001 := bits_two (bits_fdiv (gcd_pos hy) by')
  have hb4 := bits_sh hy bx by'
  refine wpAny_call ?_
  k_dflt cell_enter
  k_steps
  all_goals first
    | exact endT hret (due_a (by assumption)) (by assumption) (by assumption) (List.Mem.head _) (fun _ h => List.Mem.tail _ h) (by assumption)
    | (rename _ ∧ AllLt _ _ => hl9; exact endT hret (due_b (by assumption) (by assumption)) (by assumption) (by assumption) (List.Mem.head _) (fun _ h => List.Mem.tail _ (List.Mem.tail _ h)) (ktn_ltOf hl9.2))
    | (rename _ ∧ AllLt _ _ => hl9; exact endT hret (due_c hy (by assumption) (by assumption)) (by assumption) (by assumption) (List.Mem.head _) (fun _ h => List.Mem.tail _ (List.Mem.tail _ h)) (ktn_ltOf hl9.2))
    | (exfalso; omega)
    | trace_state
end
section
open PySem.Calls
theorem lo_start {top bottom : Int} (hb : 0 < bottom) (b1 : bits top ≤ 6000) (b2 : bits bottom ≤ 6000) :
   0 ≤ bottom ∧ 0 ≤ (if top < 0 then -top else top) ∧ Int.gcd bottom (if top < 0 then -top else top) = Int.gcd top bottom ∧ (0 < bottom ∨ 0 < (if top < 0 then -top else top)) ∧ bits bottom ≤ 6000 ∧ bits (if top < 0 then -top else top) ≤ 6000 := by
  refine ⟨by omega, by split <;> omega, ?_, by omega, b2, ?_⟩
  · rw [Int.gcd_comm]
    split
    · exact Int.neg_gcd
    · rfl
  · split
    · exact bits_neg b1
    · exact b1
theorem lo_turn {x y : Int} {g : Nat} (h0 : 0 ≤ x) (h1 : 0 ≤ y) (h : Int.gcd x y = g) (b : bits y ≤ 6000) (hy : y ≠ 0) :
    0 ≤ y ∧ 0 ≤ Int.fmod x y ∧ Int.gcd y (Int.fmod x y) = g ∧ (0 < y ∨ 0 < Int.fmod x y) ∧ bits y ≤ 6000 ∧ bits (Int.fmod x y) ≤ 6000 := by
  rw [Int.fmod_eq_emod_of_nonneg x h1]
  have h2 := Int.emod_nonneg x hy
  have h3 := Int.emod_lt_of_pos x (show 0 < y by omega)
  refine ⟨h1, h2, ?_, by omega, b, bits_abs b (by omega)⟩
  rw [← h, gcd_mod h0]
theorem lo_less {x y : Int} (h1 : 0 ≤ y) (hy : y ≠ 0) : (Int.fmod x y).toNat < y.toNat := cd_less (by omega)
theorem lo_end {x y top bottom : Int} (h0 : 0 ≤ x) (h : Int.gcd x y = Int.gcd top bottom) (hy : y = 0) : (Int.fdiv top x, Int.fdiv bottom x) = (Int.fdiv top (Int.gcd top bottom), Int.fdiv bottom (Int.gcd top bottom)) := by
  subst hy
  rw [Int.gcd_zero_right] at h
  have : x = (Int.gcd top bottom : Int) := by omega
  rw [this]
set_option maxHeartbeats 8000000 in
theorem low_ok (w : World) (s₀ : Shared) (mg mb : Str → Option Value) (news : List (Addr × Obj)) (x y : Int) (t1 t2 : Tok) (hy : 0 < y) (bx : bits x ≤ 6000) (by' : bits y ≤ 6000) :
    Claim w s₀ mg mb 164 [.int x t1, .int y t2] 1 news (RetT news (Int.fdiv x (Int.gcd x y)) (Int.fdiv y (Int.gcd x y))) := by
  unfold Claim RetT
  k_with_none
  k_with "m binaryOp FloorDiv int int" => ((refine' floordiv_int (by omega) ?_ (Or.inl (noPy9 (by first | assumption | exact Nat.le_trans (by assumption) (by decide))))))
  k_with "m mul_fits" => (exact mul_ok (by bits_fit) (by bits_fit))
  k_with "m bits_fit" => (first | assumption | exact Nat.le_trans (by assumption) (by decide) | exact Nat.le_trans bits_M (by decide) | exact Nat.le_trans bits_Rt (by decide))
  k_fill
  w_top on
  intro dp un gd cn cs a ccd cl outer A₀ base h₀ L m s Q E B F X N T hk hd hu hret
  refine wpAny_call ?_
  k_dflt cell_enter
  k_with "exec While Compare cons nil" => k_while_given ["top", "bottom"] (fun top bottom _ n f => 0 ≤ n ∧ 0 ≤ f ∧ Int.gcd n f = Int.gcd top bottom ∧ (0 < n ∨ 0 < f) ∧ bits n ≤ 6000 ∧ bits f ≤ 6000) (fun top bottom _ n f => f.toNat) "near" "far"
  k_with "state" => first | exact lo_start (by assumption) (by assumption) (by assumption) | exact lo_turn (by assumption) (by assumption) (by assumption) (by assumption) (by assumption)
  k_with "measure" => exact lo_less (by assumption) (by assumption)
  k_steps
  all_goals first
    | (refine' endT hret ?e ?F ?N ?hm ?hn ?hl; (case F => assumption); (case N => assumption); (case hm => k_mem); (case hn => kcj_all); (case hl => first | assumption | (rename _ ∧ AllLt _ _ => hl9; exact ktn_ltOf hl9.2) | (rename _ ∧ _ ∧ AllLt _ _ => hl9; exact ktn_ltOf hl9.2.2) | (rename _ ∧ _ ∧ _ ∧ AllLt _ _ => hl9; exact ktn_ltOf hl9.2.2.2) | (rename _ ∧ _ ∧ _ ∧ _ ∧ AllLt _ _ => hl9; exact ktn_ltOf hl9.2.2.2.2)); (case e => exact lo_end (by assumption) (by assumption) (by assumption)))
    | trace_state
end
section
open PySem.Calls
theorem abs_pos_ne {x a : Int} (ha : 0 < a) (h : (if x < 0 then -x else x) ≥ a) (hp : ¬ 0 < x) : x.sign = -1 := by
  refine Int.sign_eq_neg_one_of_neg ?_
  split at h <;> omega
theorem yM_pos {y : Int} (hy : 0 < y) : 0 < y * M := Int.mul_pos hy M_pos
theorem ld_a {x y : Int} (h : (if x < 0 then -x else x) ≥ y * M) (hp : 0 < x) : (1, 0) = due x y := by
  rw [Int.mul_comm] at h
  rw [← due_a h, Int.sign_eq_one_of_pos hp]
theorem ld_b {x y : Int} (hy : 0 < y) (h : (if x < 0 then -x else x) ≥ y * M) (hp : ¬ 0 < x) : (-1, 0) = due x y := by
  have hs := abs_pos_ne (yM_pos hy) h hp
  rw [Int.mul_comm] at h
  rw [← due_a h, hs]
theorem ld_c {x y : Int} (h : ¬ (if x < 0 then -x else x) ≥ y * M) (h2 : Int.fdiv y (Int.gcd x y) ≤ M) : (Int.fdiv x (Int.gcd x y), Int.fdiv y (Int.gcd x y)) = due x y := by
  rw [Int.mul_comm] at h
  exact due_b h h2
theorem ld_3 {x y : Int} (h : ¬ (if x < 0 then -x else x) ≥ y * M) (h2 : ¬ Int.fdiv y (Int.gcd x y) ≤ M) : due x y = due1 (Int.fdiv (2 * M * x + y) (2 * y)) M := by
  rw [Int.mul_comm] at h
  unfold due
  rw [if_neg h, if_neg h2]
theorem ld_d {x y z : Int} (h : ¬ (if x < 0 then -x else x) ≥ y * M) (h2 : ¬ Int.fdiv y (Int.gcd x y) ≤ M) (hz : z = Int.fdiv (2 * M * x + y) (2 * y)) (h3 : (if z < 0 then -z else z) ≥ M * M) (hp : 0 < z) : (1, 0) = due x y := by
  rw [ld_3 h h2, ← hz, ← due1_a h3, Int.sign_eq_one_of_pos hp]
theorem ld_e {x y z : Int} (h : ¬ (if x < 0 then -x else x) ≥ y * M) (h2 : ¬ Int.fdiv y (Int.gcd x y) ≤ M) (hz : z = Int.fdiv (2 * M * x + y) (2 * y)) (h3 : (if z < 0 then -z else z) ≥ M * M) (hp : ¬ 0 < z) : (-1, 0) = due x y := by
  rw [ld_3 h h2, ← hz, ← due1_a h3, abs_pos_ne (yM_pos M_pos) h3 hp]
theorem ld_f {x y z : Int} (h : ¬ (if x < 0 then -x else x) ≥ y * M) (h2 : ¬ Int.fdiv y (Int.gcd x y) ≤ M) (hz : z = Int.fdiv (2 * M * x + y) (2 * y)) (h3 : ¬ (if z < 0 then -z else z) ≥ M * M) : (Int.fdiv z (Int.gcd z M), Int.fdiv M (Int.gcd z M)) = due x y := by
  rw [ld_3 h h2, ← hz, ← due1_b h3]
theorem bits_sh2 {x y : Int} (hy : 0 < y) (bx : bits x ≤ 4500) (by' : bits y ≤ 4500) : bits (Int.fdiv (2 * M * x + y) (2 * y)) ≤ 6000 := by
  refine bits_fdiv (by omega) ?_
  have h1 : bits (2 * M * x) ≤ 1330 + 4500 := bits_mul (bits_two bits_M) bx
  have h2 : bits y ≤ 1330 + 4500 := Nat.le_trans by' (by decide)
  exact Nat.le_trans (bits_add h1 h2) (by decide)
set_option maxHeartbeats 8000000 in
theorem ldue_ok (w : World) (s₀ : Shared) (mg mb : Str → Option Value) (news : List (Addr × Obj)) (x y : Int) (t1 t2 : Tok) (hy : 0 < y) (bx : bits x ≤ 4500) (by' : bits y ≤ 4500) :
    Claim w s₀ mg mb 171 [.int x t1, .int y t2] 2 news (RetT news (due x y).1 (due x y).2) := by
  unfold Claim RetT
  k_with_none
  k_with "m binaryOp FloorDiv int int" => ((refine' floordiv_int (by omega) ?_ (Or.inl (noPy9 (by first | assumption | exact Nat.le_trans (by assumption) (by decide))))))
  k_with "m mul_fits" => (exact mul_ok (by bits_fit) (by bits_fit))
  k_with "m bits_fit" => (first | assumption | exact Nat.le_trans (by assumption) (by decide) | exact Nat.le_trans bits_M (by decide) | exact Nat.le_trans bits_Rt (by decide))
  k_with "m call ref" => ((k_here; (with_reducible show wpAny _ _ (call (Value.ref 136) _) _ _ _); k_dflt (refine' use2 (by k_asm) (by k_asm) (by k_asm) (by k_asm) (by k_asm) (by first | exact rfl | assumption) (bound_ok _ _ _ _ _) (by first | exact un3 (by assumption) (by exact rfl) | ktr_room) (by first | exact un3 (by assumption) (by exact rfl) | ktr_units) ?_; (dsimp only [RetI]; intro t' h' tk' F' N'; (try dsimp only); (try k_fold)))))
  k_with "m call ref" => ((k_here; (with_reducible show wpAny _ _ (call (Value.ref 164) _) _ _ _); k_dflt (refine' use2 (by k_asm) (by k_asm) (by k_asm) (by k_asm) (by k_asm) (by first | exact rfl | assumption) (low_ok _ _ _ _ _ _ _ _ _ (by first | assumption | omega | exact M_pos) (by first | assumption | exact Nat.le_trans (by assumption) (by decide) | exact bits_M6) (by first | assumption | exact Nat.le_trans (by assumption) (by decide) | exact bits_M6)) (by first | exact un3 (by assumption) (by exact rfl) | ktr_room) (by first | exact un3 (by assumption) (by exact rfl) | ktr_units) ?_; (dsimp only [RetT]; intro D' t1' t2' c' h' tk' F' N' l1'; (try k_lt l1'); (try dsimp only); (try k_fold)))))
  k_with "m binaryOp Pow int int" => (((with_reducible show wpAny _ _ (binaryOp Operator.Pow (Value.int M _) (Value.int 2 _)) _ _ _); (refine' powM ?_)))
  k_fill
  w_top on
  intro dp un gd cn cs a ccd cl outer A₀ base h₀ L m s Q E B F X N T hk hd hu hret
  have hb1 : bits (2 * M) ≤ 1330 := bits_two bits_M
  have hb2 : bits (2 * y) ≤ 4501 := bits_two by'
  have hb3 := bits_sh2 hy bx by'
  refine wpAny_call ?_
  k_dflt cell_enter
  k_steps
  all_goals first
    | (refine' endT hret ?e ?F ?N ?hm ?hn ?hl; (case F => assumption); (case N => assumption); (case hm => k_mem); (case hn => kcj_all); (case hl => first | assumption | (rename _ ∧ AllLt _ _ => hl9; exact ktn_ltOf hl9.2) | (rename _ ∧ _ ∧ AllLt _ _ => hl9; exact ktn_ltOf hl9.2.2) | (rename _ ∧ _ ∧ _ ∧ AllLt _ _ => hl9; exact ktn_ltOf hl9.2.2.2) | (rename _ ∧ _ ∧ _ ∧ _ ∧ AllLt _ _ => hl9; exact ktn_ltOf hl9.2.2.2.2)); (case e => exact ld_a (by assumption) (by assumption)))
    | (refine' endT hret ?e ?F ?N ?hm ?hn ?hl; (case F => assumption); (case N => assumption); (case hm => k_mem); (case hn => kcj_all); (case hl => first | assumption | (rename _ ∧ AllLt _ _ => hl9; exact ktn_ltOf hl9.2) | (rename _ ∧ _ ∧ AllLt _ _ => hl9; exact ktn_ltOf hl9.2.2) | (rename _ ∧ _ ∧ _ ∧ AllLt _ _ => hl9; exact ktn_ltOf hl9.2.2.2) | (rename _ ∧ _ ∧ _ ∧ _ ∧ AllLt _ _ => hl9; exact ktn_ltOf hl9.2.2.2.2)); (case e => exact ld_b (by assumption) (by assumption) (by assumption)))
    | (refine' endT hret ?e ?F ?N ?hm ?hn ?hl; (case F => assumption); (case N => assumption); (case hm => k_mem); (case hn => kcj_all); (case hl => first | assumption | (rename _ ∧ AllLt _ _ => hl9; exact ktn_ltOf hl9.2) | (rename _ ∧ _ ∧ AllLt _ _ => hl9; exact ktn_ltOf hl9.2.2) | (rename _ ∧ _ ∧ _ ∧ AllLt _ _ => hl9; exact ktn_ltOf hl9.2.2.2) | (rename _ ∧ _ ∧ _ ∧ _ ∧ AllLt _ _ => hl9; exact ktn_ltOf hl9.2.2.2.2)); (case e => exact ld_c (by assumption) (by assumption)))
    | (refine' endT hret ?e ?F ?N ?hm ?hn ?hl; (case F => assumption); (case N => assumption); (case hm => k_mem); (case hn => kcj_all); (case hl => first | assumption | (rename _ ∧ AllLt _ _ => hl9; exact ktn_ltOf hl9.2) | (rename _ ∧ _ ∧ AllLt _ _ => hl9; exact ktn_ltOf hl9.2.2) | (rename _ ∧ _ ∧ _ ∧ AllLt _ _ => hl9; exact ktn_ltOf hl9.2.2.2) | (rename _ ∧ _ ∧ _ ∧ _ ∧ AllLt _ _ => hl9; exact ktn_ltOf hl9.2.2.2.2)); (case e => exact ld_d (by assumption) (by assumption) rfl (by assumption) (by assumption)))
    | (refine' endT hret ?e ?F ?N ?hm ?hn ?hl; (case F => assumption); (case N => assumption); (case hm => k_mem); (case hn => kcj_all); (case hl => first | assumption | (rename _ ∧ AllLt _ _ => hl9; exact ktn_ltOf hl9.2) | (rename _ ∧ _ ∧ AllLt _ _ => hl9; exact ktn_ltOf hl9.2.2) | (rename _ ∧ _ ∧ _ ∧ AllLt _ _ => hl9; exact ktn_ltOf hl9.2.2.2) | (rename _ ∧ _ ∧ _ ∧ _ ∧ AllLt _ _ => hl9; exact ktn_ltOf hl9.2.2.2.2)); (case e => exact ld_e (by assumption) (by assumption) rfl (by assumption) (by assumption)))
    | (refine' endT hret ?e ?F ?N ?hm ?hn ?hl; (case F => assumption); (case N => assumption); (case hm => k_mem); (case hn => kcj_all); (case hl => first | assumption | (rename _ ∧ AllLt _ _ => hl9; exact ktn_ltOf hl9.2) | (rename _ ∧ _ ∧ AllLt _ _ => hl9; exact ktn_ltOf hl9.2.2) | (rename _ ∧ _ ∧ _ ∧ AllLt _ _ => hl9; exact ktn_ltOf hl9.2.2.2) | (rename _ ∧ _ ∧ _ ∧ _ ∧ AllLt _ _ => hl9; exact ktn_ltOf hl9.2.2.2.2)); (case e => exact ld_f (by assumption) (by assumption) rfl (by assumption)))
    | trace_state
end
section
open PySem.Calls
set_option maxHeartbeats 8000000 in
theorem nan_ok (w : World) (s₀ : Shared) (mg mb : Str → Option Value) (news : List (Addr × Obj)) (A₁ : Addr) (p q : Int) (t1 t2 : Tok) (c1 : Nat)
   (hA : (A₁, tup p t1 q t2 c1) ∈ news) (hq : 0 < q) :
    Claim w s₀ mg mb 45 [.ref A₁] 1 news (RetB news false) := by
  unfold Claim RetB
  k_with_none
  k_with "m mul_fits" => (exact mul_ok (by bits_fit) (by bits_fit))
  k_with "m bits_fit" => (first | assumption | exact Nat.le_trans (by assumption) (by decide) | exact Nat.le_trans bits_M (by decide) | exact Nat.le_trans bits_Rt (by decide))
  k_with "m call ref" => ((k_here; (with_reducible show wpAny _ _ (call (Value.ref 38) _) _ _ _); k_dflt (refine' use2 (by k_asm) (by k_asm) (by k_asm) (by k_asm) (by k_asm) (by first | exact rfl | assumption) (num_ok _ _ _ _ _ _ _ _ _ (by exact Int.mul_pos (by assumption) (by assumption)) (by assumption) (by assumption)) (by first | exact un3 (by assumption) (by exact rfl) | ktr_room) (by first | exact un3 (by assumption) (by exact rfl) | ktr_units) ?_; (dsimp only [RetT]; intro D' t1' t2' c' h' tk' F' N' l1'; (try k_lt l1'); (try dsimp only); (try k_fold)))))
  k_fill
  w_top on
  intro dp un gd cn cs a ccd cl outer A₀ base h₀ L m s Q E B F X N T hk hd hu hret
  refine wpAny_call ?_
  k_dflt cell_enter
  k_steps
  all_goals first
    | (exfalso; omega)
    | (refine' endB hret ?e ?F ?N ?hn; (case F => assumption); (case N => assumption); (case hn => kcj_all); (case e => rfl))
    | (refine' endB hret ?e ?F ?N ?hn; (case F => assumption); (case N => assumption); (case hn => kcj_all); (case e => (simp; omega)))
    | trace_state
set_option maxHeartbeats 8000000 in
theorem nanz_ok (w : World) (s₀ : Shared) (mg mb : Str → Option Value) (news : List (Addr × Obj)) (A₁ : Addr) (p q : Int) (t1 t2 : Tok) (c1 : Nat)
   (hA : (A₁, tup p t1 q t2 c1) ∈ news) (hp : p ≠ 0) :
    Claim w s₀ mg mb 45 [.ref A₁] 1 news (RetB news false) := by
  unfold Claim RetB
  k_with_none
  k_with "m mul_fits" => (exact mul_ok (by bits_fit) (by bits_fit))
  k_with "m bits_fit" => (first | assumption | exact Nat.le_trans (by assumption) (by decide) | exact Nat.le_trans bits_M (by decide) | exact Nat.le_trans bits_Rt (by decide))
  k_with "m call ref" => ((k_here; (with_reducible show wpAny _ _ (call (Value.ref 38) _) _ _ _); k_dflt (refine' use2 (by k_asm) (by k_asm) (by k_asm) (by k_asm) (by k_asm) (by first | exact rfl | assumption) (num_ok _ _ _ _ _ _ _ _ _ (by exact Int.mul_pos (by assumption) (by assumption)) (by assumption) (by assumption)) (by first | exact un3 (by assumption) (by exact rfl) | ktr_room) (by first | exact un3 (by assumption) (by exact rfl) | ktr_units) ?_; (dsimp only [RetT]; intro D' t1' t2' c' h' tk' F' N' l1'; (try k_lt l1'); (try dsimp only); (try k_fold)))))
  k_fill
  w_top on
  intro dp un gd cn cs a ccd cl outer A₀ base h₀ L m s Q E B F X N T hk hd hu hret
  refine wpAny_call ?_
  k_dflt cell_enter
  k_steps
  all_goals first
    | (exfalso; omega)
    | (refine' endB hret ?e ?F ?N ?hn; (case F => assumption); (case N => assumption); (case hn => kcj_all); (case e => rfl))
    | (refine' endB hret ?e ?F ?N ?hn; (case F => assumption); (case N => assumption); (case hn => kcj_all); (case e => (simp; omega)))
    | trace_state
set_option maxHeartbeats 8000000 in
theorem times_ok (w : World) (s₀ : Shared) (mg mb : Str → Option Value) (news : List (Addr × Obj)) (A₁ B₁ : Addr) (p q r v : Int) (t1 t2 t3 t4 : Tok) (c1 c2 : Nat)
   (hA : (A₁, tup p t1 q t2 c1) ∈ news) (hB : (B₁, tup r t3 v t4 c2) ∈ news) (hq : 0 < q) (hv : 0 < v) (bp : bits p ≤ 2999) (bq : bits q ≤ 2999) (br : bits r ≤ 2999) (bv : bits v ≤ 2999) :
    Claim w s₀ mg mb 66 [.ref A₁, .ref B₁] 4 news (RetT news (due (p * r) (q * v)).1 (due (p * r) (q * v)).2) := by
  unfold Claim RetT
  k_with_none
  k_with "m mul_fits" => (exact mul_ok (by bits_fit) (by bits_fit))
  k_with "m bits_fit" => (first | assumption | exact Nat.le_trans (by assumption) (by decide) | exact Nat.le_trans bits_M (by decide) | exact Nat.le_trans bits_Rt (by decide))
  k_with "m call ref" => ((k_here; (with_reducible show wpAny _ _ (call (Value.ref 38) _) _ _ _); k_dflt (refine' use2 (by k_asm) (by k_asm) (by k_asm) (by k_asm) (by k_asm) (by first | exact rfl | assumption) (num_ok _ _ _ _ _ _ _ _ _ (by exact Int.mul_pos (by assumption) (by assumption)) (by assumption) (by assumption)) (by first | exact un3 (by assumption) (by exact rfl) | ktr_room) (by first | exact un3 (by assumption) (by exact rfl) | ktr_units) ?_; (dsimp only [RetT]; intro D' t1' t2' c' h' tk' F' N' l1'; (try k_lt l1'); (try dsimp only); (try k_fold)))))
  k_with "m call ref" => ((k_here; (with_reducible show wpAny _ _ (call (Value.ref 45) _) _ _ _); k_dflt (refine' use2 (by k_asm) (by k_asm) (by k_asm) (by k_asm) (by k_asm) (by first | exact rfl | assumption) (nan_ok _ _ _ _ _ _ _ _ _ _ _ (by first | assumption | k_mem) (by first | assumption | omega)) (by first | exact un3 (by assumption) (by exact rfl) | ktr_room) (by first | exact un3 (by assumption) (by exact rfl) | ktr_units) ?_; (dsimp only [RetB]; intro h' tk' F' N'; (try dsimp only); (try k_fold)))))
  k_fill
  w_top on
  intro dp un gd cn cs a ccd cl outer A₀ base h₀ L m s Q E B F X N T hk hd hu hret
  have hb1 : bits (p * r) ≤ 6000 := Nat.le_trans (bits_mul bp br) (by decide)
  have hb2 : bits (q * v) ≤ 6000 := Nat.le_trans (bits_mul bq bv) (by decide)
  refine wpAny_call ?_
  k_dflt cell_enter
  k_steps
  all_goals first
    | (refine' endT hret ?e ?F ?N ?hm ?hn ?hl; (case F => assumption); (case N => assumption); (case hm => k_mem); (case hn => kcj_all); (case hl => first | assumption | (rename _ ∧ AllLt _ _ => hl9; exact ktn_ltOf hl9.2) | (rename _ ∧ _ ∧ AllLt _ _ => hl9; exact ktn_ltOf hl9.2.2) | (rename _ ∧ _ ∧ _ ∧ AllLt _ _ => hl9; exact ktn_ltOf hl9.2.2.2) | (rename _ ∧ _ ∧ _ ∧ _ ∧ AllLt _ _ => hl9; exact ktn_ltOf hl9.2.2.2.2)); (case e => rfl))
    | (exfalso; omega)
    | trace_state
set_option maxHeartbeats 8000000 in
theorem plus_ok (w : World) (s₀ : Shared) (mg mb : Str → Option Value) (news : List (Addr × Obj)) (A₁ B₁ : Addr) (p q r v : Int) (t1 t2 t3 t4 : Tok) (c1 c2 : Nat)
   (hA : (A₁, tup p t1 q t2 c1) ∈ news) (hB : (B₁, tup r t3 v t4 c2) ∈ news) (hq : 0 < q) (hv : 0 < v) (bp : bits p ≤ 2999) (bq : bits q ≤ 2999) (br : bits r ≤ 2999) (bv : bits v ≤ 2999) :
    Claim w s₀ mg mb 59 [.ref A₁, .ref B₁] 4 news (RetT news (due (p * v + r * q) (q * v)).1 (due (p * v + r * q) (q * v)).2) := by
  unfold Claim RetT
  k_with_none
  k_with "m mul_fits" => (exact mul_ok (by bits_fit) (by bits_fit))
  k_with "m bits_fit" => (first | assumption | exact Nat.le_trans (by assumption) (by decide) | exact Nat.le_trans bits_M (by decide) | exact Nat.le_trans bits_Rt (by decide))
  k_with "m call ref" => ((k_here; (with_reducible show wpAny _ _ (call (Value.ref 38) _) _ _ _); k_dflt (refine' use2 (by k_asm) (by k_asm) (by k_asm) (by k_asm) (by k_asm) (by first | exact rfl | assumption) (num_ok _ _ _ _ _ _ _ _ _ (by exact Int.mul_pos (by assumption) (by assumption)) (by assumption) (by assumption)) (by first | exact un3 (by assumption) (by exact rfl) | ktr_room) (by first | exact un3 (by assumption) (by exact rfl) | ktr_units) ?_; (dsimp only [RetT]; intro D' t1' t2' c' h' tk' F' N' l1'; (try k_lt l1'); (try dsimp only); (try k_fold)))))
  k_with "m call ref" => ((k_here; (with_reducible show wpAny _ _ (call (Value.ref 45) _) _ _ _); k_dflt (refine' use2 (by k_asm) (by k_asm) (by k_asm) (by k_asm) (by k_asm) (by first | exact rfl | assumption) (nan_ok _ _ _ _ _ _ _ _ _ _ _ (by first | assumption | k_mem) (by first | assumption | omega)) (by first | exact un3 (by assumption) (by exact rfl) | ktr_room) (by first | exact un3 (by assumption) (by exact rfl) | ktr_units) ?_; (dsimp only [RetB]; intro h' tk' F' N'; (try dsimp only); (try k_fold)))))
  k_fill
  w_top on
  intro dp un gd cn cs a ccd cl outer A₀ base h₀ L m s Q E B F X N T hk hd hu hret
  have hb1 : bits (p * v + r * q) ≤ 6000 := Nat.le_trans (bits_add (bits_mul bp bv) (bits_mul br bq)) (by decide)
  have hb2 : bits (q * v) ≤ 6000 := Nat.le_trans (bits_mul bq bv) (by decide)
  refine wpAny_call ?_
  k_dflt cell_enter
  k_steps
  all_goals first
    | (refine' endT hret ?e ?F ?N ?hm ?hn ?hl; (case F => assumption); (case N => assumption); (case hm => k_mem); (case hn => kcj_all); (case hl => first | assumption | (rename _ ∧ AllLt _ _ => hl9; exact ktn_ltOf hl9.2) | (rename _ ∧ _ ∧ AllLt _ _ => hl9; exact ktn_ltOf hl9.2.2) | (rename _ ∧ _ ∧ _ ∧ AllLt _ _ => hl9; exact ktn_ltOf hl9.2.2.2) | (rename _ ∧ _ ∧ _ ∧ _ ∧ AllLt _ _ => hl9; exact ktn_ltOf hl9.2.2.2.2)); (case e => rfl))
    | (exfalso; omega)
    | trace_state
end
section
open PySem.Calls
abbrev lst2 (a : Int) (ta : Tok) (b : Int) (tb : Tok) (c : Nat) : Obj := { cls := .type "list", data := .seq #[.int a ta, .int b tb] c }
abbrev RetTake (S : Addr) (rest : List (Addr × Obj)) (top : Int) : Heap → Addr → (Str → Option Value) → Shared → (Value → Shared → Prop) → Prop :=
  fun h₀ L m s Q => ∀ (d : Int) (t : Tok) (a : Int) (ta : Tok) (b : Int) (tb : Tok) (c : Nat) (h' : Heap) (tk' : Nat), 0 ≤ d → d < top → 0 ≤ a → 0 ≤ b → b < 2147483647 →
    Fr h₀ L h' m → News h₀ L h' ((S, lst2 a ta b tb c) :: rest) → Q (.int d t) { s with heap := h', toks := tk' }
theorem fm_lo {x n : Int} (h : 0 < n) : 0 ≤ Int.fmod x n := fmod_lo x h
theorem fm_hi {x n : Int} (h : 0 < n) : Int.fmod x n < n := fmod_hi x h
theorem fd_lo {x n : Int} (h : 0 < n) (hx : 0 ≤ x) : 0 ≤ Int.fdiv x n := by
  rw [Int.fdiv_eq_ediv_of_nonneg _ (by omega)]
  exact Int.ediv_nonneg hx (by omega)
theorem fm_bits {x : Int} : bits (Int.fmod x 2147483647) ≤ 1048576 := by
  have h1 := fm_lo (x := x) (show (0 : Int) < 2147483647 by decide)
  have h2 := fm_hi (x := x) (show (0 : Int) < 2147483647 by decide)
  exact Nat.le_trans (bits_le (k := 31) (by omega)) (by decide)
theorem getD1 {a z : Int} : [a, z].getD (Int.toNat 1) 0 = z := rfl
set_option maxHeartbeats 8000000 in
theorem take_ok (w : World) (s₀ : Shared) (mg mb : Str → Option Value) (rest : List (Addr × Obj)) (S : Addr) (a : Int) (ta : Tok) (b : Int) (tb : Tok) (c : Nat) (top : Int) (t2 : Tok)
   (hr : ∀ p ∈ rest, p.1 ≠ S) (h0 : 0 < top) (h1 : top < 100) (ha : 0 ≤ a) (hb : 0 ≤ b) (hb2 : b < 2147483647) :
    Claim w s₀ mg mb 150 [.ref S, .int top t2] 1 ((S, lst2 a ta b tb c) :: rest) (RetTake S rest top) := by
  unfold Claim RetTake
  k_with_none
  k_with "m mul_fits" => (exact mul_ok (by bits_fit) (by bits_fit))
  k_with "m bits_fit" => (first | assumption | exact Nat.le_trans (by assumption) (by decide) | exact Nat.le_trans bits_M (by decide) | exact Nat.le_trans bits_Rt (by decide))
  k_with "m mul_fits" => ((simp only [getD1]; exact mul_ok fm_bits fm_bits))
  k_with "m k_all" => (assumption)
  k_fill
  w_top on
  intro dp un gd cn cs a ccd cl outer A₀ base h₀ L m s Q E B F X N T hk hd hu hret
  refine wpAny_call ?_
  k_dflt cell_enter
  k_steps
  all_goals first
    | exact hret _ _ _ _ _ _ _ _ _ (fm_lo h0) (fm_hi h0) (fd_lo h0 ha) hb hb2 (by assumption) (by assumption)
    | exact hret _ _ _ _ _ _ _ _ _ (fm_lo h0) (fm_hi h0) ha (fm_lo (by decide)) (fm_hi (by decide)) (by assumption) (by assumption)
    | trace_state
end
section
open PySem.Calls
theorem call_len_any {prog : Program} {w : World} {A : Around} {E : Value → Shared → Prop} {s : Shared} {l : Addr} {vs : List Value} {Q : Value → Shared → Prop} (hl : s.heap.IsList l vs.toArray) (hfit : vs.length < 2 ^ 62)
    (h : Q (.int (vs.length : Nat) (s.toks + 1)) { s with toks := s.toks + 1 + 1 }) : wpAny (model prog w) A (call (.builtin "len") [.ref l]) Q E s := by
  refine Calls.call_len_list hl (by simp only [List.size_toArray]; omega) ?_
  simpa only [List.size_toArray] using h
theorem mem_news {h₀ h : Heap} {L D : Addr} {news : List (Addr × Obj)} {vs : List Value} {c : Nat} (N : News h₀ L h news) (hm : (D, ({ cls := .type "list", data := .seq vs.toArray c } : Obj)) ∈ news) : h.IsList D vs.toArray := ⟨_, N.get hm, rfl, c, rfl⟩
theorem getItem_any {prog : Program} {w : World} {A : Around} {E : Value → Shared → Prop} {s : Shared} {value slice : PySem.Expr} {l : Addr} {vs : List Value} {k : Int} {u : Tok} {Q : Value → Shared → Prop}
    (hl : s.heap.IsList l vs.toArray) (h0 : 0 ≤ k) (h1 : k < vs.length) (hfit : vs.length < 2 ^ 62) (h : ∀ v, v ∈ vs → Q v s)
    (hs : subscripted slice false (.ref l) (.int k u) = operate [.ref l, .int k u] (getItem (.ref l) (.int k u)) := by with_unfolding_all rfl) :
    wpAny (model prog w) A (subscriptTail value slice (.ref l) (.int k u)) Q E s := by
  have hlt : k.toNat < vs.length := by omega
  refine tail_any hl.typeIs slot_list_getitem.lookup (wpAny_getItem_list hl h0 (by omega) (x := vs[k.toNat]) (by simp [hlt]) (h _ (List.getElem_mem hlt))) hs
abbrev RetOne (S : Addr) (rest : List (Addr × Obj)) (vs : List Value) : Heap → Addr → (Str → Option Value) → Shared → (Value → Shared → Prop) → Prop :=
  fun h₀ L m s Q => ∀ (v : Value) (a : Int) (ta : Tok) (b : Int) (tb : Tok) (c : Nat) (h' : Heap) (tk' : Nat), v ∈ vs → 0 ≤ a → 0 ≤ b → b < 2147483647 →
    Fr h₀ L h' m → News h₀ L h' ((S, lst2 a ta b tb c) :: rest) → Q v { s with heap := h', toks := tk' }
set_option maxHeartbeats 8000000 in
theorem one_ok (w : World) (s₀ : Shared) (mg mb : Str → Option Value) (rest : List (Addr × Obj)) (S D : Addr) (a : Int) (ta : Tok) (b : Int) (tb : Tok) (c c2 : Nat) (vs : List Value)
   (hD : (D, ({ cls := .type "list", data := .seq vs.toArray c2 } : Obj)) ∈ rest) (hr : ∀ p ∈ rest, p.1 ≠ S) (ha : 0 ≤ a) (hb : 0 ≤ b) (hb2 : b < 2147483647) (h0 : 0 < (vs.length : Int)) (h1 : (vs.length : Int) < 100) :
    Claim w s₀ mg mb 157 [.ref S, .ref D] 2 ((S, lst2 a ta b tb c) :: rest) (RetOne S rest vs) := by
  unfold Claim RetOne
  k_with_none
  k_with "m call ref" => ((k_here; (with_reducible show wpAny _ _ (call (Value.ref 150) _) _ _ _); k_dflt (refine' use2 (by k_asm) (by k_asm) (by k_asm) (by k_asm) (by k_asm) (by first | exact rfl | assumption) (take_ok _ _ _ _ _ _ _ _ _ _ _ _ _ (by assumption) (by first | assumption | omega | decide) (by first | assumption | omega | decide) (by assumption) (by assumption) (by assumption)) (by first | exact un3 (by assumption) (by exact rfl) | ktr_room) (by first | exact un3 (by assumption) (by exact rfl) | ktr_units) ?_; (dsimp only [RetTake]; intro d' td' a' ta' b' tb' c' h' tk' hd0 hd1 ha' hb' hb2' F' N'; (try dsimp only); (try k_fold)))))
  k_with "m call builtin:len" => ((k_here; (with_reducible show wpAny _ _ (call (Value.builtin _) [Value.ref _]) _ _ _); (with_unfolding_all refine' call_len_any (by exact mem_news (by assumption) (List.Mem.tail _ (by assumption))) (by omega) ?_; k_whole)))
  k_with "m subscriptTail" => ((k_here; (with_reducible show wpAny _ _ (subscriptTail _ _ (Value.ref _) (Value.int _ _)) _ _ _); (with_unfolding_all refine' getItem_any (by exact mem_news (by assumption) (List.Mem.tail _ (by assumption))) (by assumption) (by assumption) (by omega) ?_; k_whole); intro v' hv'))
  k_fill
  w_top on
  intro dp un gd cn cs a ccd cl outer A₀ base h₀ L m s Q E B F X N T hk hd hu hret
  refine wpAny_call ?_
  k_dflt cell_enter
  k_steps
  all_goals first
    | (refine' hret _ _ _ _ _ _ _ _ ?e1 ?e2 ?e3 ?e4 ?eF ?eN; (case eN => assumption); (case eF => assumption); (case e1 => assumption); (case e2 => assumption); (case e3 => assumption); (case e4 => assumption))
    | trace_state
end
section
open PySem.Calls
theorem abs_scale {k t : Int} (hk : 0 < k) : (if k * t < 0 then -(k * t) else k * t) = k * (if t < 0 then -t else t) := by
  by_cases h : t < 0
  · have : k * t < 0 := Int.mul_neg_of_pos_of_neg hk h
    rw [if_pos this, if_pos h, Int.mul_neg]
  · have : ¬ k * t < 0 := by
      have := Int.mul_nonneg (show 0 ≤ k by omega) (show 0 ≤ t by omega)
      omega
    rw [if_neg this, if_neg h]
theorem ge_scale {k a b : Int} (hk : 0 < k) : (k * a ≥ M * (k * b)) ↔ (a ≥ M * b) := by
  have e : M * (k * b) = k * (M * b) := by rw [Int.mul_left_comm]
  rw [e]
  constructor
  · intro h; exact Int.le_of_mul_le_mul_left h hk
  · intro h; exact Int.mul_le_mul_of_nonneg_left h (by omega)
theorem gcd_scale {k t b : Int} (hk : 0 < k) : (Int.gcd (k * t) (k * b) : Int) = k * (Int.gcd t b : Int) := by
  rw [Int.gcd_mul_left]
  have : (k.natAbs : Int) = k := by omega
  rw [Int.natCast_mul, this]
theorem sign_scale {k t : Int} (hk : 0 < k) : (k * t).sign = t.sign := by
  rw [Int.sign_mul, Int.sign_eq_one_of_pos hk, Int.one_mul]
theorem due_scale {k t b : Int} (hk : 0 < k) (hb : 0 < b) : due (k * t) (k * b) = due t b := by
  have c : (if k * t < 0 then -(k * t) else k * t) ≥ M * (k * b) ↔ (if t < 0 then -t else t) ≥ M * b := by
    rw [abs_scale hk]; exact ge_scale hk
  by_cases h : (if t < 0 then -t else t) ≥ M * b
  · rw [← due_a h, ← due_a (c.mpr h), sign_scale hk]
  · have h' := fun q => h (c.mp q)
    unfold due
    have hg := gcd_pos (x := t) hb
    rw [if_neg h, if_neg h', gcd_scale hk, fdiv_scale hg hk, fdiv_scale hg hk]
    have e : Int.fdiv (2 * M * (k * t) + k * b) (2 * (k * b)) = Int.fdiv (2 * M * t + b) (2 * b) := by
      rw [← fdiv_scale (a := 2 * M * t + b) (b := 2 * b) (c := k) (by omega) hk]
      congr 1 <;> grind
    rw [e]
theorem due_cross {t b t' b' : Int} (hb : 0 < b) (hb' : 0 < b') (h : t * b' = t' * b) : due t b = due t' b' := by
  rw [← due_scale (k := b') hb' hb, ← due_scale (k := b) hb hb', Int.mul_comm b' t, h, Int.mul_comm t' b, Int.mul_comm b' b]
theorem due_exact {t b : Int} (hb : 0 < b) (hbM : b ≤ M) (h : ¬ (if t < 0 then -t else t) ≥ M * b) :
    due t b = (Int.fdiv t (Int.gcd t b), Int.fdiv b (Int.gcd t b)) := by
  refine (due_b h ?_).symm
  have h1 := natAbs_fdiv_le (x := b) (gcd_pos (x := t) hb)
  have h2 := gcd_dvd_q (x := t) hb
  omega
theorem due_exact_pos {t b : Int} (hb : 0 < b) (hbM : b ≤ M) (h : ¬ (if t < 0 then -t else t) ≥ M * b) : 0 < (due t b).2 := by
  rw [due_exact hb hbM h]
  exact gcd_dvd_q hb
theorem due_exact_eq {t b : Int} (hb : 0 < b) (hbM : b ≤ M) (h : ¬ (if t < 0 then -t else t) ≥ M * b) : (due t b).1 * b = t * (due t b).2 := by
  rw [due_exact hb hbM h]
  have h1 := fdiv_mul_gcd_l t b
  have h2 := fdiv_mul_gcd_r t b
  show Int.fdiv t (Int.gcd t b) * b = t * Int.fdiv b (Int.gcd t b)
  generalize Int.fdiv t (Int.gcd t b) = p at *
  generalize Int.fdiv b (Int.gcd t b) = q at *
  generalize (Int.gcd t b : Int) = g at *
  rw [← h1, ← h2]
  grind
theorem due_exact_b1 {t b : Int} {k : Nat} (hb : 0 < b) (hbM : b ≤ M) (h : ¬ (if t < 0 then -t else t) ≥ M * b) (ht : bits t ≤ k) : bits (due t b).1 ≤ k := by
  rw [due_exact hb hbM h]
  exact bits_fdiv (gcd_pos hb) ht
theorem due_exact_b2 {t b : Int} {k : Nat} (hb : 0 < b) (hbM : b ≤ M) (h : ¬ (if t < 0 then -t else t) ≥ M * b) (ht : bits b ≤ k) : bits (due t b).2 ≤ k := by
  rw [due_exact hb hbM h]
  exact bits_fdiv (gcd_pos hb) ht
theorem cross_mul {p q r v t b u e : Int} (h1 : p * b = t * q) (h2 : r * e = u * v) : (p * r) * (b * e) = (t * u) * (q * v) := by
  have : (p * r) * (b * e) = (p * b) * (r * e) := by grind
  rw [this, h1, h2]
  grind
theorem cross_add {p q r v t b u e : Int} (h1 : p * b = t * q) (h2 : r * e = u * v) : (p * v + r * q) * (b * e) = (t * e + u * b) * (q * v) := by
  have : (p * v + r * q) * (b * e) = (p * b) * (v * e) + (r * e) * (q * b) := by grind
  rw [this, h1, h2]
  grind
theorem bits_small {x : Int} (h1 : -(2 ^ 64) < x) (h2 : x < 2 ^ 64) : bits x ≤ 64 := intBits_le_64 h1 h2
theorem bits_pm {x : Int} (h : x = 1 ∨ x = -1) : bits x ≤ 64 := bits_small (by omega) (by omega)
theorem bits_nn {x n : Int} (h0 : 0 ≤ x) (h1 : x < n) (hn : n ≤ 100) : bits x ≤ 64 := bits_small (by omega) (by omega)
theorem bits_add2 {j k : Nat} {a b : Int} (ha : bits a ≤ j) (hb : bits b ≤ k) : bits (a + b) ≤ max j k + 1 := bits_add (Nat.le_trans ha (by omega)) (Nat.le_trans hb (by omega))
theorem bits_sub2 {j k : Nat} {a b : Int} (ha : bits a ≤ j) (hb : bits b ≤ k) : bits (a - b) ≤ max j k + 1 := by
  rw [Int.sub_eq_add_neg]
  exact bits_add2 ha (bits_neg hb)
end
section
open PySem.Calls
abbrev RetX (news : List (Addr × Obj)) (x y : Int) : Heap → Addr → (Str → Option Value) → Shared → (Value → Shared → Prop) → Prop :=
  fun h₀ L m s Q => ∀ (p q : Int), (due x y).1 = p → (due x y).2 = q → 0 < q → p * y = x * q → bits p ≤ 2999 → bits q ≤ 2999 →
    ∀ (D : Addr) (t1 t2 : Tok) (c : Nat) (h' : Heap) (tk' : Nat), Fr h₀ L h' m → News h₀ L h' ((D, tup p t1 q t2 c) :: news) → (∀ p ∈ news, p.1 < D) → Q (.ref D) { s with heap := h', toks := tk' }
theorem numx_ok (w : World) (s₀ : Shared) (mg mb : Str → Option Value) (news : List (Addr × Obj)) (x y : Int) (t1 t2 : Tok) (hy : 0 < y) (hyM : y ≤ M) (hlt : ¬ (if x < 0 then -x else x) ≥ M * y) (bx : bits x ≤ 2999) (by' : bits y ≤ 2999) :
    Claim w s₀ mg mb 38 [.int x t1, .int y t2] 3 news (RetX news x y) := by
  intro dp un gd cn cs a ccd cl outer A₀ base h₀ L m s Q E B F X N T hk hd hu hret
  exact num_ok w s₀ mg mb news x y t1 t2 hy (Nat.le_trans bx (by decide)) (Nat.le_trans by' (by decide)) dp un gd cn cs a ccd cl outer A₀ base h₀ L m s Q E B F X N T hk hd hu
    (hret _ _ rfl rfl (due_exact_pos hy hyM hlt) (due_exact_eq hy hyM hlt) (due_exact_b1 hy hyM hlt bx) (due_exact_b2 hy hyM hlt by'))
section
variable {h₀ h : Heap} {L : Addr} {x1 x2 x3 x4 x5 x6 y : Addr × Obj} {r : List (Addr × Obj)}
theorem news_perm {l l' : List (Addr × Obj)} (N : News h₀ L h l) (e : ∀ p ∈ l', p ∈ l) : News h₀ L h l' := fun p hp => N p (e p hp)
theorem swap1 (N : News h₀ L h (x1 :: y :: r)) : News h₀ L h (y :: x1 :: r) := news_perm N (by simp +contextual)
theorem swap2 (N : News h₀ L h (x1 :: x2 :: y :: r)) : News h₀ L h (y :: x1 :: x2 :: r) := news_perm N (by simp +contextual)
theorem swap3 (N : News h₀ L h (x1 :: x2 :: x3 :: y :: r)) : News h₀ L h (y :: x1 :: x2 :: x3 :: r) := news_perm N (by simp +contextual)
theorem swap4 (N : News h₀ L h (x1 :: x2 :: x3 :: x4 :: y :: r)) : News h₀ L h (y :: x1 :: x2 :: x3 :: x4 :: r) := news_perm N (by simp +contextual)
theorem swap5 (N : News h₀ L h (x1 :: x2 :: x3 :: x4 :: x5 :: y :: r)) : News h₀ L h (y :: x1 :: x2 :: x3 :: x4 :: x5 :: r) := news_perm N (by simp +contextual)
theorem swap6 (N : News h₀ L h (x1 :: x2 :: x3 :: x4 :: x5 :: x6 :: y :: r)) : News h₀ L h (y :: x1 :: x2 :: x3 :: x4 :: x5 :: x6 :: r) := news_perm N (by simp +contextual)
end
theorem getItem_at {prog : Program} {w : World} {A : Around} {E : Value → Shared → Prop} {s : Shared} {value slice : PySem.Expr} {l : Addr} {vs : List Value} {k : Int} {u : Tok} {v : Value} {Q : Value → Shared → Prop}
    (hl : s.heap.IsList l vs.toArray) (h0 : 0 ≤ k) (h1 : k < 2 ^ 63) (hx : vs[k.toNat]? = some v) (h : Q v s)
    (hs : subscripted slice false (.ref l) (.int k u) = operate [.ref l, .int k u] (getItem (.ref l) (.int k u)) := by with_unfolding_all rfl) :
    wpAny (model prog w) A (subscriptTail value slice (.ref l) (.int k u)) Q E s :=
  tail_any hl.typeIs slot_list_getitem.lookup (wpAny_getItem_list hl h0 h1 (by simpa using hx) h) hs
theorem news_one {h₀ h : Heap} {L : Addr} {l : List (Addr × Obj)} {p : Addr × Obj} (N : News h₀ L h l) (hm : p ∈ l) : News h₀ L h [p] := news_perm N (by simpa using hm)
theorem one2 {v : Value} {x1 x2 : Int} {t1 t2 : Tok} (h : v ∈ [Value.int x1 t1, .int x2 t2]) : ∃ x t, v = .int x t ∧ (x = x1 ∨ x = x2) := by
  simp only [List.mem_cons, List.not_mem_nil, or_false] at h
  rcases h with h | h
  · exact ⟨_, _, h, .inl rfl⟩
  · exact ⟨_, _, h, .inr rfl⟩
theorem bot5 {v : Value} {t1 t2 t3 t4 t5 : Tok} (h : v ∈ [Value.int M t1, .int (M - 1) t2, .int (M - 3) t3, .int (Int.fdiv M 2 + 1) t4, .int 7 t5]) : ∃ x t, v = .int x t ∧ 7 ≤ x ∧ x ≤ M ∧ bits x ≤ 1329 := by
  simp only [List.mem_cons, List.not_mem_nil, or_false] at h
  have e : (7 ≤ M - 3 ∧ 7 ≤ Int.fdiv M 2 + 1 ∧ Int.fdiv M 2 + 1 ≤ M) := by decide +kernel
  have key : ∃ x t, v = .int x t ∧ 7 ≤ x ∧ x ≤ M := by
    rcases h with h | h | h | h | h
    · exact ⟨_, _, h, by omega, by omega⟩
    · exact ⟨_, _, h, by omega, by omega⟩
    · exact ⟨_, _, h, by omega, by omega⟩
    · exact ⟨_, _, h, by omega, by omega⟩
    · exact ⟨_, _, h, by omega, by omega⟩
  obtain ⟨x, t, h1, h2, h3⟩ := key
  exact ⟨x, t, h1, h2, h3, bits_abs bits_M (by omega)⟩
theorem str2 {v : Value} {x1 x2 : Str} {t1 t2 : Tok} (h : v ∈ [Value.str x1 t1, .str x2 t2]) : ∃ x t, v = .str x t ∧ (x = x1 ∨ x = x2) := by
  simp only [List.mem_cons, List.not_mem_nil, or_false] at h
  rcases h with h | h
  · exact ⟨_, _, h, .inl rfl⟩
  · exact ⟨_, _, h, .inr rfl⟩
theorem str3 {v : Value} {x1 x2 x3 : Str} {t1 t2 t3 : Tok} (h : v ∈ [Value.str x1 t1, .str x2 t2, .str x3 t3]) : ∃ x t, v = .str x t ∧ (x = x1 ∨ x = x2 ∨ x = x3) := by
  simp only [List.mem_cons, List.not_mem_nil, or_false] at h
  rcases h with h | h | h
  · exact ⟨_, _, h, .inl rfl⟩
  · exact ⟨_, _, h, .inr (.inl rfl)⟩
  · exact ⟨_, _, h, .inr (.inr rfl)⟩
abbrev RetPart (S : Addr) : Heap → Addr → (Str → Option Value) → Shared → (Value → Shared → Prop) → Prop :=
  fun h₀ L m s Q => ∀ (a : Int) (ta : Tok) (b : Int) (tb : Tok) (c : Nat) (h' : Heap) (tk' : Nat), 0 ≤ a → 0 ≤ b → b < 2147483647 →
    Fr h₀ L h' m → News h₀ L h' [(S, lst2 a ta b tb c)] → Q (.bool true) { s with heap := h', toks := tk' }
end
section
open PySem.Calls
def PT (p : Int × Int) : PyData := .tuple [.int p.1, .int p.2]
theorem reads_tup {h₀ h : Heap} {L D : Addr} {news : List (Addr × Obj)} {x y : Int} {t1 t2 : Tok} {c : Nat} (N : News h₀ L h news) (hm : (D, tup x t1 y t2 c) ∈ news) : ∃ as, Reads h (.ref D) (PT (x, y)) as :=
  ⟨_, reads_tuple_at (N.get hm) rfl rfl (ReadsAll.cons (Reads.int _ _) (ReadsAll.cons (Reads.int _ _) ReadsAll.nil))⟩
inductive PairsIn (news : List (Addr × Obj)) : List Value → List (Int × Int) → Prop where
  | nil : PairsIn news [] []
  | cons {D : Addr} {x y : Int} {t1 t2 : Tok} {c : Nat} {vs : List Value} {ps : List (Int × Int)} : (D, tup x t1 y t2 c) ∈ news → PairsIn news vs ps → PairsIn news (.ref D :: vs) ((x, y) :: ps)
theorem reads_pairs {h₀ h : Heap} {L : Addr} {news : List (Addr × Obj)} (N : News h₀ L h news) {vs : List Value} {ps : List (Int × Int)} (hp : PairsIn news vs ps) : ∃ as, ReadsAll h vs (ps.map PT) as := by
  induction hp with
  | nil => exact ⟨_, ReadsAll.nil⟩
  | cons hm _ ih =>
    obtain ⟨as, r⟩ := ih
    obtain ⟨bs, q⟩ := reads_tup N hm
    exact ⟨_, ReadsAll.cons q r⟩
theorem eqv_PT (p q : Int × Int) : PyData.eqv (PT p) (PT q) = decide (p = q) := by
  obtain ⟨a, b⟩ := p
  obtain ⟨c, d⟩ := q
  simp only [PT, PyData.eqv, PyData.eqvAll, Bool.and_true]
  by_cases h1 : a = c <;> by_cases h2 : b = d <;> simp [h1, h2]
theorem eqvAll_PT : ∀ ps qs : List (Int × Int), PyData.eqvAll (ps.map PT) (qs.map PT) = decide (ps = qs)
  | [], [] => by simp [PyData.eqvAll]
  | [], _ :: _ => by simp [PyData.eqvAll]
  | _ :: _, [] => by simp [PyData.eqvAll]
  | a :: r, b :: t => by
    simp only [List.map_cons, PyData.eqvAll, eqv_PT, eqvAll_PT r t]
    by_cases h : a = b <;> by_cases h' : r = t <;> simp [h, h']
theorem lay_PT (p : Int × Int) : (PT p).canLay0 = true ∧ (PT p).depth = 1 := by
  constructor <;> rfl
theorem lay_PTs : ∀ ps : List (Int × Int), PyData.canLayAll0 (ps.map PT) = true ∧ PyData.depthAll (ps.map PT) ≤ 1
  | [] => ⟨rfl, Nat.zero_le _⟩
  | p :: r => by
    have ⟨h1, h2⟩ := lay_PTs r
    have ⟨h3, h4⟩ := lay_PT p
    constructor
    · simp only [List.map_cons, PyData.canLayAll0, h1, h3, Bool.and_self]
    · simp only [List.map_cons, PyData.depthAll, h4]
      omega
theorem shaped_PT (p : Int × Int) : SeqAt.shaped (PT p) = true := by
  have ⟨h3, h4⟩ := lay_PT p
  unfold SeqAt.shaped
  rw [h3, h4]; rfl
theorem shaped_PTs (ps : List (Int × Int)) : SeqAt.shaped (.list (ps.map PT)) = true := by
  have ⟨h1, h2⟩ := lay_PTs ps
  unfold SeqAt.shaped
  have e : (PyData.list (ps.map PT)).canLay0 = true := by simpa only [PyData.canLay0] using h1
  have d : (PyData.list (ps.map PT)).depth ≤ 64 := by simp only [PyData.depth]; omega
  rw [e, decide_eq_true d]; rfl
section
variable {prog : Program} {w : World} {A : Around} {E : Value → Shared → Prop} {s : Shared} {h₀ : Heap} {L a b : Addr} {news : List (Addr × Obj)} {Q : Value → Shared → Prop} {x y x' y' : Int} {t1 t2 t3 t4 : Tok} {c d : Nat} {vs us : List Value} {ps qs : List (Int × Int)}
theorem eq_tup (N : News h₀ L s.heap news) (ha : (a, tup x t1 y t2 c) ∈ news) (hb : (b, tup x' t3 y' t4 d) ∈ news) (hu : A.units + 64 < cLine) (e : (x, y) = (x', y')) (h : Q (.bool true) s) :
    wpAny (model prog w) A (compareOp .Eq (.ref a) (.ref b)) Q E s := by
  obtain ⟨_, r1⟩ := reads_tup N ha
  obtain ⟨_, r2⟩ := reads_tup N hb
  refine eq_dataH r1 r2 (shaped_PT _) (shaped_PT _) hu ?_
  rw [eqv_PT, decide_eq_true e]; exact h
theorem ne_tup (N : News h₀ L s.heap news) (ha : (a, tup x t1 y t2 c) ∈ news) (hb : (b, tup x' t3 y' t4 d) ∈ news) (hu : A.units + 64 < cLine) (e : (x, y) = (x', y')) (h : Q (.bool false) s) :
    wpAny (model prog w) A (compareOp .NotEq (.ref a) (.ref b)) Q E s := by
  obtain ⟨_, r1⟩ := reads_tup N ha
  obtain ⟨_, r2⟩ := reads_tup N hb
  refine ne_dataH r1 r2 (shaped_PT _) (shaped_PT _) hu ?_
  rw [eqv_PT, decide_eq_true e]; exact h
theorem reads_plist (N : News h₀ L s.heap news) (ha : (a, ({ cls := .type "list", data := .seq vs.toArray c } : Obj)) ∈ news) (hp : PairsIn news vs ps) : ∃ as, Reads s.heap (.ref a) (.list (ps.map PT)) as := by
  obtain ⟨as, r⟩ := reads_pairs N hp
  exact ⟨_, reads_list_at (N.get ha) rfl rfl r⟩
theorem eq_plist (N : News h₀ L s.heap news) (ha : (a, ({ cls := .type "list", data := .seq vs.toArray c } : Obj)) ∈ news) (hb : (b, ({ cls := .type "list", data := .seq us.toArray d } : Obj)) ∈ news)
    (hp : PairsIn news vs ps) (hq : PairsIn news us qs) (hu : A.units + 64 < cLine) (e : ps = qs) (h : Q (.bool true) s) :
    wpAny (model prog w) A (compareOp .Eq (.ref a) (.ref b)) Q E s := by
  obtain ⟨_, r1⟩ := reads_plist N ha hp
  obtain ⟨_, r2⟩ := reads_plist N hb hq
  refine eq_dataH r1 r2 (shaped_PTs _) (shaped_PTs _) hu ?_
  simp only [PyData.eqv, eqvAll_PT, decide_eq_true e]; exact h
theorem ne_plist (N : News h₀ L s.heap news) (ha : (a, ({ cls := .type "list", data := .seq vs.toArray c } : Obj)) ∈ news) (hb : (b, ({ cls := .type "list", data := .seq us.toArray d } : Obj)) ∈ news)
    (hp : PairsIn news vs ps) (hq : PairsIn news us qs) (hu : A.units + 64 < cLine) (e : ps = qs) (h : Q (.bool false) s) :
    wpAny (model prog w) A (compareOp .NotEq (.ref a) (.ref b)) Q E s := by
  obtain ⟨_, r1⟩ := reads_plist N ha hp
  obtain ⟨_, r2⟩ := reads_plist N hb hq
  refine ne_dataH r1 r2 (shaped_PTs _) (shaped_PTs _) hu ?_
  simp only [PyData.eqv, eqvAll_PT, decide_eq_true e]; exact h
end
theorem pairs_eq2 {x y z w p q r v : Int} (h1 : (due x y).1 = p) (h2 : (due x y).2 = q) (h3 : (due z w).1 = r) (h4 : (due z w).2 = v) : [(p, q), (r, v)] = [((due x y).1, (due x y).2), ((due z w).1, (due z w).2)] := by
  subst h1 h2 h3 h4; rfl
theorem pair_due {x y z w : Int} (h : due x y = due z w) : ((due x y).1, (due x y).2) = ((due z w).1, (due z w).2) := by rw [h]
end
section
open PySem.Calls
theorem Rt_big : 1000000 < Rt := by decide +kernel
theorem M_big : 1000000 < M := by decide +kernel
theorem pr_pos {d : Int} (h0 : 0 ≤ d) : 0 < (1 + d) * Rt := Int.mul_pos (by omega) (by have := Rt_big; omega)
theorem pr_leM {d : Int} (h0 : 0 ≤ d) (h1 : d < 9) : (1 + d) * Rt ≤ M := by
  rw [← Rt_sq]
  have := Rt_big
  exact Int.mul_le_mul_of_nonneg_right (by omega) (by omega)
theorem pr_eq {d : Int} : Rt * ((1 + d) * Rt) = (1 + d) * M := by
  rw [← Rt_sq]; grind
theorem pr_core {d : Int} (h0 : 0 ≤ d) : (1 + d) * M + 1000000 < M * ((1 + d) * Rt) ∧ 1000000 < (1 + d) * M := by
  have h1 := Rt_big
  have h2 := M_big
  have h3 : M ≤ (1 + d) * M := by
    have := Int.mul_le_mul_of_nonneg_right (show 1 ≤ 1 + d by omega) (show 0 ≤ M by omega)
    omega
  have e : M * ((1 + d) * Rt) = ((1 + d) * M) * Rt := by grind
  rw [e]
  have h4 : ((1 + d) * M) * 2 ≤ ((1 + d) * M) * Rt := Int.mul_le_mul_of_nonneg_left (by omega) (by omega)
  omega
theorem pr_lt1 {x d k : Int} (hs : x = 1 ∨ x = -1) (h0 : 0 ≤ d) (hk0 : 0 ≤ k) (hk : k < 4) :
   ¬ (if x * (Rt * ((1 + d) * Rt) - k) < 0 then -(x * (Rt * ((1 + d) * Rt) - k)) else x * (Rt * ((1 + d) * Rt) - k)) ≥ M * ((1 + d) * Rt) := by
  have ⟨h1, h2⟩ := pr_core h0
  rw [pr_eq]
  rcases hs with rfl | rfl <;> split <;> omega
theorem pr_lt2 {d k : Int} (h0 : 0 ≤ d) (hk0 : 0 ≤ k) (hk : k < 4) :
   ¬ (if Rt * ((1 + d) * Rt) + k < 0 then -(Rt * ((1 + d) * Rt) + k) else Rt * ((1 + d) * Rt) + k) ≥ M * ((1 + d) * Rt) := by
  have ⟨h1, h2⟩ := pr_core h0
  rw [pr_eq]
  split <;> omega
theorem pr_fin {d p q r v t u : Int} (h0 : 0 ≤ d) (hq : 0 < q) (hv : 0 < v) (h1 : p * ((1 + d) * Rt) = t * q) (h2 : r * ((1 + d) * Rt) = u * v) :
   due (p * r) (q * v) = due (t * u) ((1 + d) * Rt * ((1 + d) * Rt)) :=
  due_cross (Int.mul_pos hq hv) (Int.mul_pos (pr_pos h0) (pr_pos h0)) (cross_mul h1 h2)
set_option maxHeartbeats 8000000 in
theorem prod_ok (w : World) (s₀ : Shared) (mg mb : Str → Option Value) (S : Addr) (a : Int) (ta : Tok) (b : Int) (tb : Tok) (c : Nat)
   (ha : 0 ≤ a) (hb : 0 ≤ b) (hb2 : b < 2147483647) :
    Claim w s₀ mg mb 178 [.ref S] 20 [(S, lst2 a ta b tb c)] (RetPart S) := by
  unfold Claim RetPart
  k_with_none
  k_with "m bits_fit" => (first | assumption | exact bits_M | exact bits_Rt | exact bits_mul (by bits_fit) (by bits_fit) | exact bits_add2 (by bits_fit) (by bits_fit) | exact bits_sub2 (by bits_fit) (by bits_fit) | exact bits_neg (by bits_fit) | exact bits_pm (by assumption) | exact bits_nn (by assumption) (by assumption) (by decide) | exact bits_small (by decide) (by decide) | exact bits_small (by omega) (by omega))
  k_with "m mul_fits" => (first | exact mul_ok (Nat.le_trans (by bits_fit) (by decide)) (Nat.le_trans (by bits_fit) (by decide)))
  k_with "m subscriptTail Name Constant ref int" => ((k_here; (with_reducible show wpAny _ _ (subscriptTail _ _ (Value.ref _) (Value.int _ _)) _ _ _); k_dflt (refine' item_tupleT (by exact News.isTup (by k_asm) (by k_mem)) (by decide) (by decide) (by rfl) (by rfl) ?_; k_whole)))
  k_with "m subscriptTail Name Constant ref int" => ((k_here; (with_reducible show wpAny _ _ (subscriptTail _ _ (Value.ref _) (Value.int _ _)) _ _ _); k_dflt (refine' getItem_at (by exact mem_news (by k_asm) (by k_mem)) (by decide) (by decide) (by rfl) ?_; k_whole)))
  k_with "m call ref" => ((k_here; (with_reducible show wpAny _ _ (call (Value.ref 129) _) _ _ _); k_dflt (refine' use2 (by k_asm) (by k_asm) (by k_asm) (by k_asm) (by k_asm) (by first | exact rfl | assumption) (root_ok _ _ _ _ _) (by first | exact un3 (by assumption) (by exact rfl) | ktr_room) (by first | exact un3 (by assumption) (by exact rfl) | ktr_units) ?_; (dsimp only [RetI]; intro t' h' tk' F' N'; (try dsimp only); (try k_fold)))))
  k_with "m call ref" => ((k_here; (with_reducible show wpAny _ _ (call (Value.ref 150) _) _ _ _); k_dflt (refine' use2 (by k_asm) (by k_asm) (by k_asm) (by first | assumption | exact swap1 (by assumption) | exact swap2 (by assumption) | exact swap3 (by assumption) | exact swap4 (by assumption) | exact swap5 (by assumption) | exact swap6 (by assumption)) (by k_asm) (by first | exact rfl | assumption) (take_ok _ _ _ _ _ _ _ _ _ _ _ _ _ (by k_all) (by first | assumption | omega | decide) (by first | assumption | omega | decide) (by assumption) (by assumption) (by assumption)) (by first | exact un3 (by assumption) (by exact rfl) | ktr_room) (by first | exact un3 (by assumption) (by exact rfl) | ktr_units) ?_; (dsimp only [RetTake]; intro d' td' a' ta' b' tb' c' h' tk' hd0 hd1 ha' hb' hb2' F' N'; (try dsimp only); (try k_fold)))))
  k_with "m call ref" => ((k_here; (with_reducible show wpAny _ _ (call (Value.ref 157) _) _ _ _); k_dflt (refine' use2 (by k_asm) (by k_asm) (by k_asm) (by first | assumption | exact swap1 (by assumption) | exact swap2 (by assumption) | exact swap3 (by assumption) | exact swap4 (by assumption) | exact swap5 (by assumption) | exact swap6 (by assumption)) (by k_asm) (by first | exact rfl | assumption) (one_ok _ _ _ _ _ _ _ _ _ _ _ _ _ _ (by k_mem) (by k_all) (by assumption) (by assumption) (by assumption) (by simp; done) (by simp; done)) (by first | exact un3 (by assumption) (by exact rfl) | ktr_room) (by first | exact un3 (by assumption) (by exact rfl) | ktr_units) ?_; (dsimp only [RetOne]; intro v' a' ta' b' tb' c' h' tk' hv' ha' hb' hb2' F' N'; (first | (obtain ⟨x', tx', hx', hs'⟩ := one2 hv') | (obtain ⟨x', tx', hx', hs'⟩ := one5 hv') | (obtain ⟨x', tx', hx', hs'⟩ := str3 hv') | (obtain ⟨x', tx', hx', hs'⟩ := str2 hv')); subst hx'; clear hv'; (try dsimp only); (try k_fold)))))
  k_with "m call ref" => ((k_here; (with_reducible show wpAny _ _ (call (Value.ref 38) _) _ _ _); k_dflt (refine' use2 (by k_asm) (by k_asm) (by k_asm) (by k_asm) (by k_asm) (by first | exact rfl | assumption) (numx_ok _ _ _ _ _ _ _ _ _ (by first | exact pr_pos (by assumption) | exact pr_leM (by assumption) (by assumption) | exact pr_lt1 (by assumption) (by assumption) (by assumption) (by assumption) | exact pr_lt2 (by assumption) (by assumption) (by assumption)) (by first | exact pr_pos (by assumption) | exact pr_leM (by assumption) (by assumption) | exact pr_lt1 (by assumption) (by assumption) (by assumption) (by assumption) | exact pr_lt2 (by assumption) (by assumption) (by assumption)) (by first | exact pr_pos (by assumption) | exact pr_leM (by assumption) (by assumption) | exact pr_lt1 (by assumption) (by assumption) (by assumption) (by assumption) | exact pr_lt2 (by assumption) (by assumption) (by assumption)) (by exact Nat.le_trans (by bits_fit) (by decide)) (by exact Nat.le_trans (by bits_fit) (by decide))) (by first | exact un3 (by assumption) (by exact rfl) | ktr_room) (by first | exact un3 (by assumption) (by exact rfl) | ktr_units) ?_; (dsimp only [RetX]; intro p' q' hp' hq' hq0' hpq' hbp' hbq' D' t1' t2' c' h' tk' F' N' l1'; (try k_lt l1'); (try dsimp only); (try k_fold)))))
  k_with "m call ref" => ((k_here; (with_reducible show wpAny _ _ (call (Value.ref 171) _) _ _ _); k_dflt (refine' use2 (by k_asm) (by k_asm) (by k_asm) (by k_asm) (by k_asm) (by first | exact rfl | assumption) (ldue_ok _ _ _ _ _ _ _ _ _ (by first | exact pr_pos (by assumption) | exact Int.mul_pos (pr_pos (by assumption)) (pr_pos (by assumption))) (by exact Nat.le_trans (by bits_fit) (by decide)) (by exact Nat.le_trans (by bits_fit) (by decide))) (by first | exact un3 (by assumption) (by exact rfl) | ktr_room) (by first | exact un3 (by assumption) (by exact rfl) | ktr_units) ?_; (dsimp only [RetT]; intro D' t1' t2' c' h' tk' F' N' l1'; (try k_lt l1'); (try dsimp only); (try k_fold)))))
  k_with "m call ref" => ((k_here; (with_reducible show wpAny _ _ (call (Value.ref 66) _) _ _ _); k_dflt (refine' use2 (by k_asm) (by k_asm) (by k_asm) (by k_asm) (by k_asm) (by first | exact rfl | assumption) (times_ok _ _ _ _ _ _ _ _ _ _ _ _ _ _ _ _ _ (by k_mem) (by k_mem) (by first | assumption | exact Nat.le_trans (by bits_fit) (by decide)) (by first | assumption | exact Nat.le_trans (by bits_fit) (by decide)) (by first | assumption | exact Nat.le_trans (by bits_fit) (by decide)) (by first | assumption | exact Nat.le_trans (by bits_fit) (by decide)) (by first | assumption | exact Nat.le_trans (by bits_fit) (by decide)) (by first | assumption | exact Nat.le_trans (by bits_fit) (by decide))) (by first | exact un3 (by assumption) (by exact rfl) | ktr_room) (by first | exact un3 (by assumption) (by exact rfl) | ktr_units) ?_; (dsimp only [RetT]; intro D' t1' t2' c' h' tk' F' N' l1'; (try k_lt l1'); (try dsimp only); (try k_fold)))))
  k_with "m compareOp NotEq ref ref" => ((k_here; (with_reducible show wpAny _ _ (compareOp CmpOp.NotEq (Value.ref _) (Value.ref _)) _ _ _); k_dflt (refine' ne_plist (by k_asm) (by k_mem) (by k_mem) (by first | exact PairsIn.cons (by k_mem) (PairsIn.cons (by k_mem) PairsIn.nil) | exact PairsIn.cons (by k_mem) (PairsIn.cons (by k_mem) (PairsIn.cons (by k_mem) PairsIn.nil)) | exact PairsIn.cons (by k_mem) (PairsIn.cons (by k_mem) (PairsIn.cons (by k_mem) (PairsIn.cons (by k_mem) PairsIn.nil)))) (by first | exact PairsIn.cons (by k_mem) (PairsIn.cons (by k_mem) PairsIn.nil) | exact PairsIn.cons (by k_mem) (PairsIn.cons (by k_mem) (PairsIn.cons (by k_mem) PairsIn.nil)) | exact PairsIn.cons (by k_mem) (PairsIn.cons (by k_mem) (PairsIn.cons (by k_mem) (PairsIn.cons (by k_mem) PairsIn.nil)))) (by first | exact un3 (by assumption) (by exact rfl) | ktr_units) (by exact pairs_eq2 (by assumption) (by assumption) (by assumption) (by assumption)) ?_; k_whole)))
  k_with "m compareOp Eq ref ref" => ((k_here; (with_reducible show wpAny _ _ (compareOp CmpOp.Eq (Value.ref _) (Value.ref _)) _ _ _); k_dflt (refine' eq_tup (by k_asm) (by k_mem) (by k_mem) (by first | exact un3 (by assumption) (by exact rfl) | ktr_units) (by exact pair_due (pr_fin (by assumption) (by assumption) (by assumption) (by assumption) (by assumption))) ?_; k_whole)))
  k_fill
  w_top on
  intro dp un gd cn cs a ccd cl outer A₀ base h₀ L m s Q E B F X N T hk hd hu hret
  refine wpAny_call ?_
  k_dflt cell_enter
  k_steps
  all_goals first
    | (rename News _ _ _ _ => kN9; refine' hret _ _ _ _ _ _ _ ?e2 ?e3 ?e4 ?eF ?eN; (case eF => assumption); (case eN => exact news_one kN9 (by k_mem)); (case e2 => assumption); (case e3 => assumption); (case e4 => assumption))
    | trace_state
end
section
open PySem.Calls
theorem M_big' : 1000000 < M := by decide +kernel
theorem su_lt1 {s x d : Int} (hs : s = 1 ∨ s = -1) (hx : 7 ≤ x) (h0 : 0 ≤ d) (h1 : d < 4) :
   ¬ (if s * (M * x - (1 + d)) < 0 then -(s * (M * x - (1 + d))) else s * (M * x - (1 + d))) ≥ M * x := by
  have h2 := M_big'
  have h3 : M * 7 ≤ M * x := Int.mul_le_mul_of_nonneg_left hx (by omega)
  rcases hs with rfl | rfl <;> split <;> omega
theorem su_lt2 {s y d : Int} (hs : s = 1 ∨ s = -1) (hy : 7 ≤ y) (h0 : 0 ≤ d) (h1 : d < 5) :
   ¬ (if s * d < 0 then -(s * d) else s * d) ≥ M * y := by
  have h2 := M_big'
  have h3 : M * 7 ≤ M * y := Int.mul_le_mul_of_nonneg_left hy (by omega)
  rcases hs with rfl | rfl <;> split <;> omega
theorem su_mul {x y : Int} (hx : 7 ≤ x) (hy : 7 ≤ y) : 0 < x * y := Int.mul_pos (by omega) (by omega)
theorem su_pos {x : Int} (hx : 7 ≤ x) : 0 < x := by omega
theorem su_fin {x y p q r v t u : Int} (hx : 7 ≤ x) (hy : 7 ≤ y) (hq : 0 < q) (hv : 0 < v) (h1 : p * x = t * q) (h2 : r * y = u * v) :
   due (p * v + r * q) (q * v) = due (t * y + u * x) (x * y) :=
  due_cross (Int.mul_pos hq hv) (su_mul hx hy) (cross_add h1 h2)
set_option maxHeartbeats 8000000 in
theorem sum_ok (w : World) (s₀ : Shared) (mg mb : Str → Option Value) (S : Addr) (a : Int) (ta : Tok) (b : Int) (tb : Tok) (c : Nat)
   (ha : 0 ≤ a) (hb : 0 ≤ b) (hb2 : b < 2147483647) :
    Claim w s₀ mg mb 185 [.ref S] 20 [(S, lst2 a ta b tb c)] (RetPart S) := by
  unfold Claim RetPart
  k_with_none
  k_with "m bits_fit" => (first | assumption | exact bits_M | exact bits_Rt | exact bits_mul (by bits_fit) (by bits_fit) | exact bits_add2 (by bits_fit) (by bits_fit) | exact bits_sub2 (by bits_fit) (by bits_fit) | exact bits_neg (by bits_fit) | exact bits_pm (by assumption) | exact bits_nn (by assumption) (by assumption) (by decide) | exact bits_small (by decide) (by decide) | exact bits_small (by omega) (by omega))
  k_with "m mul_fits" => (first | exact mul_ok (Nat.le_trans (by bits_fit) (by decide)) (Nat.le_trans (by bits_fit) (by decide)))
  k_with "m subscriptTail Name Constant ref int" => ((k_here; (with_reducible show wpAny _ _ (subscriptTail _ _ (Value.ref _) (Value.int _ _)) _ _ _); k_dflt (refine' item_tupleT (by exact News.isTup (by k_asm) (by k_mem)) (by decide) (by decide) (by rfl) (by rfl) ?_; k_whole)))
  k_with "m subscriptTail Name Constant ref int" => ((k_here; (with_reducible show wpAny _ _ (subscriptTail _ _ (Value.ref _) (Value.int _ _)) _ _ _); k_dflt (refine' getItem_at (by exact mem_news (by k_asm) (by k_mem)) (by decide) (by decide) (by rfl) ?_; k_whole)))
  k_with "m call ref" => ((k_here; (with_reducible show wpAny _ _ (call (Value.ref 136) _) _ _ _); k_dflt (refine' use2 (by k_asm) (by k_asm) (by k_asm) (by k_asm) (by k_asm) (by first | exact rfl | assumption) (bound_ok _ _ _ _ _) (by first | exact un3 (by assumption) (by exact rfl) | ktr_room) (by first | exact un3 (by assumption) (by exact rfl) | ktr_units) ?_; (dsimp only [RetI]; intro t' h' tk' F' N'; (try dsimp only); (try k_fold)))))
  k_with "m call ref" => ((k_here; (with_reducible show wpAny _ _ (call (Value.ref 150) _) _ _ _); k_dflt (refine' use2 (by k_asm) (by k_asm) (by k_asm) (by first | assumption | exact swap1 (by assumption) | exact swap2 (by assumption) | exact swap3 (by assumption) | exact swap4 (by assumption) | exact swap5 (by assumption) | exact swap6 (by assumption)) (by k_asm) (by first | exact rfl | assumption) (take_ok _ _ _ _ _ _ _ _ _ _ _ _ _ (by k_all) (by first | assumption | omega | decide) (by first | assumption | omega | decide) (by assumption) (by assumption) (by assumption)) (by first | exact un3 (by assumption) (by exact rfl) | ktr_room) (by first | exact un3 (by assumption) (by exact rfl) | ktr_units) ?_; (dsimp only [RetTake]; intro d' td' a' ta' b' tb' c' h' tk' hd0 hd1 ha' hb' hb2' F' N'; (try dsimp only); (try k_fold)))))
  k_with "m call ref" => ((k_here; (with_reducible show wpAny _ _ (call (Value.ref 157) _) _ _ _); k_dflt (refine' use2 (by k_asm) (by k_asm) (by k_asm) (by first | assumption | exact swap1 (by assumption) | exact swap2 (by assumption) | exact swap3 (by assumption) | exact swap4 (by assumption) | exact swap5 (by assumption) | exact swap6 (by assumption)) (by k_asm) (by first | exact rfl | assumption) (one_ok _ _ _ _ _ _ _ _ _ _ _ _ _ _ (by k_mem) (by k_all) (by assumption) (by assumption) (by assumption) (by simp; done) (by simp; done)) (by first | exact un3 (by assumption) (by exact rfl) | ktr_room) (by first | exact un3 (by assumption) (by exact rfl) | ktr_units) ?_; (dsimp only [RetOne]; intro v' a' ta' b' tb' c' h' tk' hv' ha' hb' hb2' F' N'; (first | (obtain ⟨x', tx', hx', hs'⟩ := one2 hv') | (obtain ⟨x', tx', hx', hs', hsM', hsb'⟩ := bot5 hv') | (obtain ⟨x', tx', hx', hs'⟩ := str3 hv') | (obtain ⟨x', tx', hx', hs'⟩ := str2 hv')); subst hx'; clear hv'; (try dsimp only); (try k_fold)))))
  k_with "m call ref" => ((k_here; (with_reducible show wpAny _ _ (call (Value.ref 38) _) _ _ _); k_dflt (refine' use2 (by k_asm) (by k_asm) (by k_asm) (by k_asm) (by k_asm) (by first | exact rfl | assumption) (numx_ok _ _ _ _ _ _ _ _ _ (by first | exact su_pos (by assumption) | assumption | exact su_lt1 (by assumption) (by assumption) (by assumption) (by assumption) | exact su_lt2 (by assumption) (by assumption) (by assumption) (by assumption)) (by first | exact su_pos (by assumption) | assumption | exact su_lt1 (by assumption) (by assumption) (by assumption) (by assumption) | exact su_lt2 (by assumption) (by assumption) (by assumption) (by assumption)) (by first | exact su_pos (by assumption) | assumption | exact su_lt1 (by assumption) (by assumption) (by assumption) (by assumption) | exact su_lt2 (by assumption) (by assumption) (by assumption) (by assumption)) (by exact Nat.le_trans (by bits_fit) (by decide)) (by exact Nat.le_trans (by bits_fit) (by decide))) (by first | exact un3 (by assumption) (by exact rfl) | ktr_room) (by first | exact un3 (by assumption) (by exact rfl) | ktr_units) ?_; (dsimp only [RetX]; intro p' q' hp' hq' hq0' hpq' hbp' hbq' D' t1' t2' c' h' tk' F' N' l1'; (try k_lt l1'); (try dsimp only); (try k_fold)))))
  k_with "m call ref" => ((k_here; (with_reducible show wpAny _ _ (call (Value.ref 171) _) _ _ _); k_dflt (refine' use2 (by k_asm) (by k_asm) (by k_asm) (by k_asm) (by k_asm) (by first | exact rfl | assumption) (ldue_ok _ _ _ _ _ _ _ _ _ (by exact su_mul (by assumption) (by assumption)) (by exact Nat.le_trans (by bits_fit) (by decide)) (by exact Nat.le_trans (by bits_fit) (by decide))) (by first | exact un3 (by assumption) (by exact rfl) | ktr_room) (by first | exact un3 (by assumption) (by exact rfl) | ktr_units) ?_; (dsimp only [RetT]; intro D' t1' t2' c' h' tk' F' N' l1'; (try k_lt l1'); (try dsimp only); (try k_fold)))))
  k_with "m call ref" => ((k_here; (with_reducible show wpAny _ _ (call (Value.ref 59) _) _ _ _); k_dflt (refine' use2 (by k_asm) (by k_asm) (by k_asm) (by k_asm) (by k_asm) (by first | exact rfl | assumption) (plus_ok _ _ _ _ _ _ _ _ _ _ _ _ _ _ _ _ _ (by k_mem) (by k_mem) (by first | assumption | exact Nat.le_trans (by bits_fit) (by decide)) (by first | assumption | exact Nat.le_trans (by bits_fit) (by decide)) (by first | assumption | exact Nat.le_trans (by bits_fit) (by decide)) (by first | assumption | exact Nat.le_trans (by bits_fit) (by decide)) (by first | assumption | exact Nat.le_trans (by bits_fit) (by decide)) (by first | assumption | exact Nat.le_trans (by bits_fit) (by decide))) (by first | exact un3 (by assumption) (by exact rfl) | ktr_room) (by first | exact un3 (by assumption) (by exact rfl) | ktr_units) ?_; (dsimp only [RetT]; intro D' t1' t2' c' h' tk' F' N' l1'; (try k_lt l1'); (try dsimp only); (try k_fold)))))
  k_with "m compareOp Eq ref ref" => ((k_here; (with_reducible show wpAny _ _ (compareOp CmpOp.Eq (Value.ref _) (Value.ref _)) _ _ _); k_dflt (refine' eq_tup (by k_asm) (by k_mem) (by k_mem) (by first | exact un3 (by assumption) (by exact rfl) | ktr_units) (by exact pair_due (su_fin (by assumption) (by assumption) (by assumption) (by assumption) (by assumption) (by assumption))) ?_; k_whole)))
  k_fill
  w_top on
  intro dp un gd cn cs a ccd cl outer A₀ base h₀ L m s Q E B F X N T hk hd hu hret
  refine wpAny_call ?_
  k_dflt cell_enter
  k_steps
  all_goals first
    | (rename News _ _ _ _ => kN9; refine' hret _ _ _ _ _ _ _ ?e2 ?e3 ?e4 ?eF ?eN; (case eF => assumption); (case eN => exact news_one kN9 (by k_mem)); (case e2 => assumption); (case e3 => assumption); (case e4 => assumption))
    | trace_state
end
section
open PySem.Calls
set_option maxHeartbeats 8000000 in
theorem numd_ok (w : World) (s₀ : Shared) (mg mb : Str → Option Value) (news : List (Addr × Obj)) (x : Int) (t1 : Tok) (bx : bits x ≤ 8000) :
    Claim w s₀ mg mb 38 [.int x t1] 2 news (RetT news (due1 x 1).1 (due1 x 1).2) := by
  unfold Claim RetT
  k_with_none
  k_with "m eval Name" => ((k_here; (with_reducible show wpAny _ _ (eval (Expr.Name (Str.ofString "MOST") _) _) _ _ _); k_dflt (refine' nameM (by k_asm) (by k_asm) (by k_asm) (by k_is) (by first | rfl | decide) ?_; k_whole)))
  k_with "m cell_enter" => ((refine' code_def (by k_asm) (by k_asm) (by k_asm) (by k_asm) (by k_asm) (by exact rfl) (by exact rfl) (by assumption) (by k_is) (by k_is) (by first | exact un3 (by assumption) (by exact rfl) | ktr_room) (by exact binds_K (by k_in) rfl (by k_is) rfl rfl rfl) (by exact locs rfl) ?_ (by exact rfl) (by exact rfl) (by exact rfl) (by decide); k_whole; intro g' L' h' FG' F' N' B' X' T'; (try dsimp only); (try k_lift B'); (try k_fold)))
  k_with "m call ref" => ((k_here; (with_reducible show wpAny _ _ (call (Value.ref 23) _) _ _ _); k_dflt (refine' use2 (by k_asm) (by k_asm) (by k_asm) (by k_asm) (by k_asm) (by first | exact rfl | assumption) (cd_ok2 _ _ _ _ _ _ _ _ _ (by omega)) (by first | exact un3 (by assumption) (by exact rfl) | ktr_room) (by first | exact un3 (by assumption) (by exact rfl) | ktr_units) ?_; (dsimp only [RetIP]; intro hG' t' h' tk' F' N'; (try dsimp only); (try k_fold)))))
  k_with "m call ref" => ((k_here; (with_reducible show wpAny _ _ (call (Value.ref 30) _) _ _ _); k_dflt (refine' use2 (by k_asm) (by k_asm) (by k_asm) (by k_asm) (by k_asm) (by first | exact rfl | assumption) (sign_ok _ _ _ _ _ _ _) (by first | exact un3 (by assumption) (by exact rfl) | ktr_room) (by first | exact un3 (by assumption) (by exact rfl) | ktr_units) ?_; (dsimp only [RetI]; intro t' h' tk' F' N'; (try dsimp only); (try k_fold)))))
  k_with "m binaryOp FloorDiv int int" => ((refine' floordiv_int (by omega) ?_ (Or.inl (noPy9 (by first | assumption | exact Nat.le_trans (by assumption) (by decide))))))
  k_with "m mul_fits" => (exact mul_ok (by bits_fit) (by bits_fit))
  k_with "m bits_fit" => (first | assumption | exact Nat.le_trans (by assumption) (by decide) | exact Nat.le_trans bits_M (by decide) | exact Nat.le_trans bits_Rt (by decide))
  k_fill
  w_top on
  intro dp un gd cn cs a ccd cl outer A₀ base h₀ L m s Q E B F X N T hk hd hu hret
  have hy : (0 : Int) < 1 := by decide
  have hs : Int.fdiv 1 (Int.gcd x 1) ≤ M := by rw [Int.gcd_one_right]; decide +kernel
  have hb1 : bits 1 ≤ 8000 := by decide
  have hbg : bits (Int.gcd x 1 : Int) ≤ 8000 := bits_gcd hy hb1
  refine wpAny_call ?_
  k_dflt cell_enter
  k_steps
  all_goals first
    | exact endT hret (due1_a (by assumption)) (by assumption) (by assumption) (List.Mem.head _) (fun _ h => List.Mem.tail _ h) (by assumption)
    | (rename _ ∧ AllLt _ _ => hl9; exact endT hret (due1_b (by assumption)) (by assumption) (by assumption) (List.Mem.head _) (fun _ h => List.Mem.tail _ (List.Mem.tail _ h)) (ktn_ltOf hl9.2))
    | (exfalso; omega)
    | trace_state
end
section
open PySem.Calls
theorem M_big2 : 1000000 < M := by decide +kernel
theorem fdiv_is {p q z : Int} (hq : 0 < q) (h1 : z * q ≤ p) (h2 : p < (z + 1) * q) : Int.fdiv p q = z := by
  rw [Int.fdiv_eq_ediv_of_nonneg _ (by omega)]
  have h3 : z ≤ p / q := (Int.le_ediv_iff_mul_le hq).mpr h1
  have h4 : p / q < z + 1 := (Int.ediv_lt_iff_lt_mul hq).mpr h2
  omega
-- p / q = s * (M * M - d) / M
theorem lt_of_mulM {a b : Int} (h : a * M < b * M) : a < b := Int.lt_of_mul_lt_mul_right h (by have := M_big2; omega)
theorem le_of_mulM {a b : Int} (h : a * M ≤ b * M) : a ≤ b := by
  rcases Int.lt_or_le b a with h1 | h1
  · have := Int.mul_lt_mul_of_pos_right h1 (show 0 < M by have := M_big2; omega)
    omega
  · exact h1
theorem w_facts {q d : Int} (hq : 0 < q) (h0 : 0 ≤ d) (hd : d ≠ 0) (h1 : d < 4) : 0 < d * q ∧ d * q ≤ M * q := by
  have h2 := M_big2
  exact ⟨Int.mul_pos (by omega) hq, Int.mul_le_mul_of_nonneg_right (by omega) (by omega)⟩
theorem w_pos {p q d : Int} (hq : 0 < q) (h0 : 0 ≤ d) (hd : d ≠ 0) (h1 : d < 4) (h : p * M = (1 * (M * M - d)) * q) : (M - 1) * q ≤ p ∧ p < M * q := by
  have ⟨f1, f2⟩ := w_facts hq h0 hd h1
  constructor
  · apply le_of_mulM
    have e : (M - 1) * q * M = M * M * q - M * q := by grind
    have e2 : (1 * (M * M - d)) * q = M * M * q - d * q := by grind
    omega
  · apply lt_of_mulM
    have e : M * q * M = M * M * q := by grind
    have e2 : (1 * (M * M - d)) * q = M * M * q - d * q := by grind
    omega
theorem w_neg {p q d : Int} (hq : 0 < q) (h0 : 0 ≤ d) (hd : d ≠ 0) (h1 : d < 4) (h : p * M = (-1 * (M * M - d)) * q) : -M * q < p ∧ p ≤ (-M + 1) * q := by
  have ⟨f1, f2⟩ := w_facts hq h0 hd h1
  constructor
  · apply lt_of_mulM
    have e : -M * q * M = -(M * M * q) := by grind
    have e2 : (-1 * (M * M - d)) * q = -(M * M * q) + d * q := by grind
    omega
  · apply le_of_mulM
    have e : (-M + 1) * q * M = -(M * M * q) + M * q := by grind
    have e2 : (-1 * (M * M - d)) * q = -(M * M * q) + d * q := by grind
    omega
theorem fl_pos {p q d : Int} (hq : 0 < q) (h0 : 0 ≤ d) (hd : d ≠ 0) (h1 : d < 4) (h : p * M = (1 * (M * M - d)) * q) : Int.fdiv p q = M - 1 ∧ Int.fdiv (-p) q = -M := by
  have ⟨a, b⟩ := w_pos hq h0 hd h1 h
  refine ⟨fdiv_is hq a (by rw [show M - 1 + 1 = M by omega]; exact b), fdiv_is hq ?_ ?_⟩
  · rw [Int.neg_mul]; omega
  · have e : (-M + 1) * q = -((M - 1) * q) := by grind
    rcases Int.lt_or_eq_of_le a with h5 | h5
    · omega
    · exfalso
      have ⟨f1, f2⟩ := w_facts hq h0 hd h1
      have e1 : p * M = M * M * q - M * q := by rw [← h5]; grind
      have e2 : (1 * (M * M - d)) * q = M * M * q - d * q := by grind
      have h6 := M_big2
      have f3 : d * q < M * q := Int.mul_lt_mul_of_pos_right (by omega) hq
      omega
theorem fl_neg {p q d : Int} (hq : 0 < q) (h0 : 0 ≤ d) (hd : d ≠ 0) (h1 : d < 4) (h : p * M = (-1 * (M * M - d)) * q) : Int.fdiv p q = -M ∧ Int.fdiv (-p) q = M - 1 := by
  have h' : -p * M = (1 * (M * M - d)) * q := by
    have : -p * M = -(p * M) := by grind
    rw [this, h]; grind
  have ⟨a, b⟩ := fl_pos hq h0 hd h1 h'
  rw [Int.neg_neg] at b
  exact ⟨b, a⟩
theorem due1_M1 : due1 (M - 1) 1 = (M - 1, 1) := by decide +kernel
theorem due1_nM : due1 (-M) 1 = (-1, 0) := by decide +kernel
theorem wx_zero {s d : Int} (hs : s = 1 ∨ s = -1) (h : d = 0) : due (s * (M * M - d)) M = (s, 0) := by
  subst h
  rcases hs with rfl | rfl <;> decide +kernel
theorem wx_lt {s d : Int} (hs : s = 1 ∨ s = -1) (h0 : 0 ≤ d) (h1 : d < 4) (hd : d ≠ 0) : ¬ (if s * (M * M - d) < 0 then -(s * (M * M - d)) else s * (M * M - d)) ≥ M * M := by
  have h2 : 1000000 < M * M := by decide +kernel
  rcases hs with rfl | rfl <;> split <;> omega
-- the rounded one: (p * 2 + 1 * q) / (q * 2)
theorem rd_pos {p q d : Int} (hq : 0 < q) (h0 : 0 ≤ d) (hd : d ≠ 0) (h1 : d < 4) (h : p * M = (1 * (M * M - d)) * q) : due (p * 2 + 1 * q) (q * 2) = (1, 0) := by
  have h2 := M_big2
  have e : due (p * 2 + 1 * q) (q * 2) = due (2 * (M * M - d) + M) (2 * M) := by
    refine due_cross (by omega) (by omega) ?_
    have : (p * 2 + 1 * q) * (2 * M) = 4 * (p * M) + 2 * (q * M) := by grind
    rw [this, h]; grind
  rw [e]
  have hdd : d = 1 ∨ d = 2 ∨ d = 3 := by omega
  rcases hdd with rfl | rfl | rfl <;> decide +kernel
theorem rd_neg {p q d : Int} (hq : 0 < q) (h0 : 0 ≤ d) (hd : d ≠ 0) (h1 : d < 4) (h : p * M = (-1 * (M * M - d)) * q) :
   0 < (due (p * 2 + 1 * q) (q * 2)).2 ∧ Int.fdiv (due (p * 2 + 1 * q) (q * 2)).1 (due (p * 2 + 1 * q) (q * 2)).2 = -M ∧ bits (due (p * 2 + 1 * q) (q * 2)).1 ≤ 6000 ∧ bits (due (p * 2 + 1 * q) (q * 2)).2 ≤ 6000 := by
  have h2 := M_big2
  have e : due (p * 2 + 1 * q) (q * 2) = due (-2 * (M * M - d) + M) (2 * M) := by
    refine due_cross (by omega) (by omega) ?_
    have : (p * 2 + 1 * q) * (2 * M) = 4 * (p * M) + 2 * (q * M) := by grind
    rw [this, h]; grind
  rw [e]
  have hdd : d = 1 ∨ d = 2 ∨ d = 3 := by omega
  rcases hdd with rfl | rfl | rfl <;> decide +kernel
abbrev RetW (news : List (Addr × Obj)) (s d : Int) : Heap → Addr → (Str → Option Value) → Shared → (Value → Shared → Prop) → Prop :=
  fun h₀ L m s' Q => ∀ (p q : Int), ((d = 0 ∧ p = s ∧ q = 0) ∨ (d ≠ 0 ∧ (p, q) = (Int.fdiv (s * (M * M - d)) (Int.gcd (s * (M * M - d)) M), Int.fdiv M (Int.gcd (s * (M * M - d)) M)) ∧ 0 < q ∧ p * M = (s * (M * M - d)) * q ∧ bits p ≤ 2999 ∧ bits q ≤ 2999)) →
    ∀ (D : Addr) (t1 t2 : Tok) (c : Nat) (h' : Heap) (tk' : Nat), Fr h₀ L h' m → News h₀ L h' ((D, tup p t1 q t2 c) :: news) → (∀ p ∈ news, p.1 < D) → Q (.ref D) { s' with heap := h', toks := tk' }
theorem bits_wx {s d : Int} (hs : s = 1 ∨ s = -1) (h0 : 0 ≤ d) (h1 : d < 4) : bits (s * (M * M - d)) ≤ 2999 := by
  have h : bits (M * M) ≤ 2998 := by decide +kernel
  have h2 : 1000000 < M * M := by decide +kernel
  refine Nat.le_trans (bits_abs h ?_) (by decide)
  rcases hs with rfl | rfl <;> omega
theorem numw_ok (w : World) (s₀ : Shared) (mg mb : Str → Option Value) (news : List (Addr × Obj)) (sg d : Int) (t1 t2 : Tok) (hs : sg = 1 ∨ sg = -1) (h0 : 0 ≤ d) (h1 : d < 4) :
    Claim w s₀ mg mb 38 [.int (sg * (M * M - d)) t1, .int M t2] 3 news (RetW news sg d) := by
  intro dp un gd cn cs a ccd cl outer A₀ base h₀ L m s Q E B F X N T hk hd hu hret
  have bx := bits_wx hs h0 h1
  refine num_ok w s₀ mg mb news _ M t1 t2 M_pos (Nat.le_trans bx (by decide)) bits_M6 dp un gd cn cs a ccd cl outer A₀ base h₀ L m s Q E B F X N T hk hd hu
    (hret _ _ ?_)
  by_cases hz : d = 0
  · refine .inl ⟨hz, ?_, ?_⟩ <;> rw [wx_zero hs hz]
  · have hlt := wx_lt hs h0 h1 hz
    refine .inr ⟨hz, ?_, due_exact_pos M_pos (Int.le_refl _) hlt, due_exact_eq M_pos (Int.le_refl _) hlt, due_exact_b1 M_pos (Int.le_refl _) hlt bx, due_exact_b2 M_pos (Int.le_refl _) hlt (Nat.le_trans bits_M (by decide))⟩
    rw [due_exact M_pos (Int.le_refl _) hlt]
set_option maxHeartbeats 8000000 in
theorem flo_ok (w : World) (s₀ : Shared) (mg mb : Str → Option Value) (news : List (Addr × Obj)) (A₁ : Addr) (p q : Int) (t1 t2 : Tok) (c1 : Nat)
   (hA : (A₁, tup p t1 q t2 c1) ∈ news) (hq : 0 < q) (bp : bits p ≤ 8000) (bq : bits q ≤ 8000) :
    Claim w s₀ mg mb 73 [.ref A₁] 4 news (RetT news (due1 (Int.fdiv p q) 1).1 (due1 (Int.fdiv p q) 1).2) := by
  unfold Claim RetT
  k_with_none
  k_with "m mul_fits" => (exact mul_ok (by bits_fit) (by bits_fit))
  k_with "m bits_fit" => (first | assumption | exact Nat.le_trans (by assumption) (by decide) | exact Nat.le_trans bits_M (by decide) | exact Nat.le_trans bits_Rt (by decide))
  k_with "m binaryOp FloorDiv int int" => ((refine' floordiv_int (by omega) ?_ (Or.inl (noPy9 (by first | assumption | exact Nat.le_trans (by assumption) (by decide))))))
  k_with "m call ref" => ((k_here; k_dflt (refine wpAny_call ?_; cell_enter)))
  k_with "m call ref" => ((k_here; (with_reducible show wpAny _ _ (call (Value.ref 38) _) _ _ _); k_dflt (refine' use2 (by k_asm) (by k_asm) (by k_asm) (by k_asm) (by k_asm) (by first | exact rfl | assumption) (numd_ok _ _ _ _ _ _ _ (by assumption)) (by first | exact un3 (by assumption) (by exact rfl) | ktr_room) (by first | exact un3 (by assumption) (by exact rfl) | ktr_units) ?_; (dsimp only [RetT]; intro D' t1' t2' c' h' tk' F' N' l1'; (try k_lt l1'); (try dsimp only); (try k_fold)))))
  k_fill
  w_top on
  intro dp un gd cn cs a ccd cl outer A₀ base h₀ L m s Q E B F X N T hk hd hu hret
  have hb1 : bits (Int.fdiv p q) ≤ 8000 := bits_fdiv hq bp
  refine wpAny_call ?_
  k_dflt cell_enter
  k_steps
  all_goals first
    | (exfalso; omega)
    | (refine' endT hret ?e ?F ?N ?hm ?hn ?hl; (case F => assumption); (case N => assumption); (case hm => k_mem); (case hn => kcj_all); (case hl => first | assumption | (rename _ ∧ AllLt _ _ => hl9; exact ktn_ltOf hl9.2) | (rename _ ∧ _ ∧ AllLt _ _ => hl9; exact ktn_ltOf hl9.2.2) | (rename _ ∧ _ ∧ _ ∧ AllLt _ _ => hl9; exact ktn_ltOf hl9.2.2.2) | (rename _ ∧ _ ∧ _ ∧ _ ∧ AllLt _ _ => hl9; exact ktn_ltOf hl9.2.2.2.2)); (case e => rfl))
    | trace_state
end
section
open PySem.Calls
abbrev RetP (news : List (Addr × Obj)) (sg : Int) : Heap → Addr → (Str → Option Value) → Shared → (Value → Shared → Prop) → Prop :=
  fun h₀ L m s' Q => ∀ (u v : Int), ((sg = 1 ∧ u = 1 ∧ v = 0) ∨ (sg = -1 ∧ 0 < v ∧ Int.fdiv u v = -M ∧ bits u ≤ 6000 ∧ bits v ≤ 6000)) →
    ∀ (D : Addr) (t1 t2 : Tok) (c : Nat) (h' : Heap) (tk' : Nat), Fr h₀ L h' m → News h₀ L h' ((D, tup u t1 v t2 c) :: news) → (∀ p ∈ news, p.1 < D) → Q (.ref D) { s' with heap := h', toks := tk' }
theorem plusw_ok (w : World) (s₀ : Shared) (mg mb : Str → Option Value) (news : List (Addr × Obj)) (A₁ B₁ : Addr) (p q sg d : Int) (t1 t2 t3 t4 : Tok) (c1 c2 : Nat)
   (hA : (A₁, tup p t1 q t2 c1) ∈ news) (hB : (B₁, tup 1 t3 2 t4 c2) ∈ news) (hq : 0 < q) (bp : bits p ≤ 2999) (bq : bits q ≤ 2999) (hX : p * M = (sg * (M * M - d)) * q) (hs : sg = 1 ∨ sg = -1) (h0 : 0 ≤ d) (hz : d ≠ 0) (h1 : d < 4) :
    Claim w s₀ mg mb 59 [.ref A₁, .ref B₁] 4 news (RetP news sg) := by
  intro dp un gd cn cs a ccd cl outer A₀ base h₀ L m s Q E B F X N T hk hd hu hret
  refine plus_ok w s₀ mg mb news A₁ B₁ p q 1 2 t1 t2 t3 t4 c1 c2 hA hB hq (by decide) bp bq (by decide) (by decide) dp un gd cn cs a ccd cl outer A₀ base h₀ L m s Q E B F X N T hk hd hu
    (hret _ _ ?_)
  rcases hs with rfl | rfl
  · refine .inl ⟨rfl, ?_, ?_⟩ <;> rw [rd_pos hq h0 hz h1 hX]
  · exact .inr ⟨rfl, rd_neg hq h0 hz h1 hX⟩
abbrev RetId (news : List (Addr × Obj)) (A₁ : Addr) : Heap → Addr → (Str → Option Value) → Shared → (Value → Shared → Prop) → Prop :=
  fun h₀ L m s Q => ∀ (h' : Heap) (tk' : Nat), Fr h₀ L h' m → News h₀ L h' news → Q (.ref A₁) { s with heap := h', toks := tk' }
theorem endId {news news' : List (Addr × Obj)} {A₁ : Addr} {h₀ h' : Heap} {L : Addr} {m : Str → Option Value} {s : Shared} {Q : Value → Shared → Prop} {tk' : Nat}
   (hret : ∀ (h' : Heap) (tk' : Nat), Fr h₀ L h' m → News h₀ L h' news → Q (.ref A₁) { s with heap := h', toks := tk' })
   (F : Fr h₀ L h' m) (N : News h₀ L h' news') (hn : ∀ p ∈ news, p ∈ news') : Q (.ref A₁) { s with heap := h', toks := tk' } :=
  hret h' tk' F (fun p hp => N p (hn p hp))
theorem rd_val {u v : Int} (h : Int.fdiv u v = -M) : ((due1 (Int.fdiv u v) 1).1, (due1 (Int.fdiv u v) 1).2) = (-1, 0) := by
  rw [h, due1_nM]
set_option maxHeartbeats 8000000 in
theorem neg_ok (w : World) (s₀ : Shared) (mg mb : Str → Option Value) (news : List (Addr × Obj)) (A₁ : Addr) (p q : Int) (t1 t2 : Tok) (c1 : Nat)
   (hA : (A₁, tup p t1 q t2 c1) ∈ news) :
    Claim w s₀ mg mb 52 [.ref A₁] 1 news (RetT news (-p) q) := by
  unfold Claim RetT
  k_with_none
  k_with "m eval Constant int" => ((k_here; dsimp only; walk_at "eval Constant int"))
  k_with "m newTuple" => ((k_here; dsimp only; walk_at "newTuple"))
  k_with "m newList" => ((k_here; dsimp only; walk_at "newList"))
  k_with "m callWith ref nil nil" => ((k_here; (with_reducible show wpAny _ _ (callWith _ (Value.ref _) _ (backTo _ (starEach [] _)) []) _ _ _); (with_reducible rename Fr _ _ _ _ => kF9); k_dflt (refine' callWith_K0 (by exact Frag.In.keeps (by k_asm) (Fr.keep kF9)) (by k_is) ?_; k_whole)))
  k_with "m subscriptTail Name Constant ref int" => ((k_here; (with_reducible show wpAny _ _ (subscriptTail _ _ (Value.ref _) (Value.int _ _)) _ _ _); k_dflt (refine' item_tupleT (by exact News.isTup (by k_asm) (by k_mem)) (by decide) (by decide) (by rfl) (by rfl) ?_; k_whole)))
  k_fill
  w_top on
  intro dp un gd cn cs a ccd cl outer A₀ base h₀ L m s Q E B F X N T hk hd hu hret
  refine wpAny_call ?_
  k_dflt cell_enter
  k_steps
  all_goals first
    | (exfalso; omega)
    | (refine' endT hret ?e ?F ?N ?hm ?hn ?hl; (case F => assumption); (case N => assumption); (case hm => k_mem); (case hn => kcj_all); (case hl => first | assumption | (rename _ ∧ AllLt _ _ => hl9; exact ktn_ltOf hl9.2) | (rename _ ∧ _ ∧ AllLt _ _ => hl9; exact ktn_ltOf hl9.2.2) | (rename _ ∧ _ ∧ _ ∧ AllLt _ _ => hl9; exact ktn_ltOf hl9.2.2.2) | (rename _ ∧ _ ∧ _ ∧ _ ∧ AllLt _ _ => hl9; exact ktn_ltOf hl9.2.2.2.2)); (case e => rfl))
    | trace_state
set_option maxHeartbeats 8000000 in
theorem flo0_ok (w : World) (s₀ : Shared) (mg mb : Str → Option Value) (news : List (Addr × Obj)) (A₁ : Addr) (p : Int) (t1 t2 : Tok) (c1 : Nat)
   (hA : (A₁, tup p t1 0 t2 c1) ∈ news) :
    Claim w s₀ mg mb 73 [.ref A₁] 1 news (RetId news A₁) := by
  unfold Claim RetId
  k_with_none
  k_with "m eval Constant int" => ((k_here; dsimp only; walk_at "eval Constant int"))
  k_with "m newTuple" => ((k_here; dsimp only; walk_at "newTuple"))
  k_with "m newList" => ((k_here; dsimp only; walk_at "newList"))
  k_with "m callWith ref nil nil" => ((k_here; (with_reducible show wpAny _ _ (callWith _ (Value.ref _) _ (backTo _ (starEach [] _)) []) _ _ _); (with_reducible rename Fr _ _ _ _ => kF9); k_dflt (refine' callWith_K0 (by exact Frag.In.keeps (by k_asm) (Fr.keep kF9)) (by k_is) ?_; k_whole)))
  k_with "m subscriptTail Name Constant ref int" => ((k_here; (with_reducible show wpAny _ _ (subscriptTail _ _ (Value.ref _) (Value.int _ _)) _ _ _); k_dflt (refine' item_tupleT (by exact News.isTup (by k_asm) (by k_mem)) (by decide) (by decide) (by rfl) (by rfl) ?_; k_whole)))
  k_fill
  w_top on
  intro dp un gd cn cs a ccd cl outer A₀ base h₀ L m s Q E B F X N T hk hd hu hret
  refine wpAny_call ?_
  k_dflt cell_enter
  k_steps
  all_goals first
    | (exfalso; omega)
    | (refine' endId hret ?F ?N ?hn; (case F => assumption); (case N => assumption); (case hn => kcj_all))
    | trace_state
set_option maxHeartbeats 8000000 in
theorem ceil_ok (w : World) (s₀ : Shared) (mg mb : Str → Option Value) (news : List (Addr × Obj)) (A₁ : Addr) (p q : Int) (t1 t2 : Tok) (c1 : Nat)
   (hA : (A₁, tup p t1 q t2 c1) ∈ news) (hq : 0 < q) (bp : bits p ≤ 8000) (bq : bits q ≤ 8000) :
    Claim w s₀ mg mb 80 [.ref A₁] 6 news (RetT news (-(due1 (Int.fdiv (-p) q) 1).1) (due1 (Int.fdiv (-p) q) 1).2) := by
  unfold Claim RetT
  k_with_none
  k_with "m eval Constant int" => ((k_here; dsimp only; walk_at "eval Constant int"))
  k_with "m newTuple" => ((k_here; dsimp only; walk_at "newTuple"))
  k_with "m newList" => ((k_here; dsimp only; walk_at "newList"))
  k_with "m callWith ref nil nil" => ((k_here; (with_reducible show wpAny _ _ (callWith _ (Value.ref _) _ (backTo _ (starEach [] _)) []) _ _ _); (with_reducible rename Fr _ _ _ _ => kF9); k_dflt (refine' callWith_K0 (by exact Frag.In.keeps (by k_asm) (Fr.keep kF9)) (by k_is) ?_; k_whole)))
  k_with "m subscriptTail Name Constant ref int" => ((k_here; (with_reducible show wpAny _ _ (subscriptTail _ _ (Value.ref _) (Value.int _ _)) _ _ _); k_dflt (refine' item_tupleT (by exact News.isTup (by k_asm) (by k_mem)) (by decide) (by decide) (by rfl) (by rfl) ?_; k_whole)))
  k_with "m bits_fit" => (first | assumption | exact bits_M | exact bits_Rt | exact bits_mul (by bits_fit) (by bits_fit) | exact bits_add2 (by bits_fit) (by bits_fit) | exact bits_sub2 (by bits_fit) (by bits_fit) | exact bits_neg (by bits_fit) | exact bits_pm (by assumption) | exact bits_nn (by assumption) (by assumption) (by decide) | exact bits_small (by decide) (by decide) | exact bits_small (by omega) (by omega))
  k_with "m call ref" => ((k_here; (with_reducible show wpAny _ _ (call (Value.ref 73) _) _ _ _); k_dflt (refine' use2 (by k_asm) (by k_asm) (by k_asm) (by k_asm) (by k_asm) (by first | exact rfl | assumption) (flo_ok _ _ _ _ _ _ _ _ _ _ _ (by k_mem) (by assumption) (by exact Nat.le_trans (by bits_fit) (by decide)) (by exact Nat.le_trans (by bits_fit) (by decide))) (by first | exact un3 (by assumption) (by exact rfl) | ktr_room) (by first | exact un3 (by assumption) (by exact rfl) | ktr_units) ?_; (dsimp only [RetT]; intro D' t1' t2' c' h' tk' F' N' l1'; (try k_lt l1'); (try dsimp only); (try k_fold)))))
  k_with "m call ref" => ((k_here; (with_reducible show wpAny _ _ (call (Value.ref 52) _) _ _ _); k_dflt (refine' use2 (by k_asm) (by k_asm) (by k_asm) (by k_asm) (by k_asm) (by first | exact rfl | assumption) (neg_ok _ _ _ _ _ _ _ _ _ _ _ (by k_mem)) (by first | exact un3 (by assumption) (by exact rfl) | ktr_room) (by first | exact un3 (by assumption) (by exact rfl) | ktr_units) ?_; (dsimp only [RetT]; intro D' t1' t2' c' h' tk' F' N' l1'; (try k_lt l1'); (try dsimp only); (try k_fold)))))
  k_fill
  w_top on
  intro dp un gd cn cs a ccd cl outer A₀ base h₀ L m s Q E B F X N T hk hd hu hret
  refine wpAny_call ?_
  k_dflt cell_enter
  k_steps
  all_goals first
    | (exfalso; omega)
    | (refine' endT hret ?e ?F ?N ?hm ?hn ?hl; (case F => assumption); (case N => assumption); (case hm => k_mem); (case hn => kcj_all); (case hl => first | assumption | (rename _ ∧ AllLt _ _ => hl9; exact ktn_ltOf hl9.2) | (rename _ ∧ _ ∧ AllLt _ _ => hl9; exact ktn_ltOf hl9.2.2) | (rename _ ∧ _ ∧ _ ∧ AllLt _ _ => hl9; exact ktn_ltOf hl9.2.2.2) | (rename _ ∧ _ ∧ _ ∧ _ ∧ AllLt _ _ => hl9; exact ktn_ltOf hl9.2.2.2.2)); (case e => rfl))
    | trace_state
set_option maxHeartbeats 8000000 in
theorem ceil0_ok (w : World) (s₀ : Shared) (mg mb : Str → Option Value) (news : List (Addr × Obj)) (A₁ : Addr) (p : Int) (t1 t2 : Tok) (c1 : Nat)
   (hA : (A₁, tup p t1 0 t2 c1) ∈ news) :
    Claim w s₀ mg mb 80 [.ref A₁] 6 news (RetT news p 0) := by
  unfold Claim RetT
  k_with_none
  k_with "m eval Constant int" => ((k_here; dsimp only; walk_at "eval Constant int"))
  k_with "m newTuple" => ((k_here; dsimp only; walk_at "newTuple"))
  k_with "m newList" => ((k_here; dsimp only; walk_at "newList"))
  k_with "m callWith ref nil nil" => ((k_here; (with_reducible show wpAny _ _ (callWith _ (Value.ref _) _ (backTo _ (starEach [] _)) []) _ _ _); (with_reducible rename Fr _ _ _ _ => kF9); k_dflt (refine' callWith_K0 (by exact Frag.In.keeps (by k_asm) (Fr.keep kF9)) (by k_is) ?_; k_whole)))
  k_with "m subscriptTail Name Constant ref int" => ((k_here; (with_reducible show wpAny _ _ (subscriptTail _ _ (Value.ref _) (Value.int _ _)) _ _ _); k_dflt (refine' item_tupleT (by exact News.isTup (by k_asm) (by k_mem)) (by decide) (by decide) (by rfl) (by rfl) ?_; k_whole)))
  k_with "m call ref" => ((k_here; (with_reducible show wpAny _ _ (call (Value.ref 52) _) _ _ _); k_dflt (refine' use2 (by k_asm) (by k_asm) (by k_asm) (by k_asm) (by k_asm) (by first | exact rfl | assumption) (neg_ok _ _ _ _ _ _ _ _ _ _ _ (by k_mem)) (by first | exact un3 (by assumption) (by exact rfl) | ktr_room) (by first | exact un3 (by assumption) (by exact rfl) | ktr_units) ?_; (dsimp only [RetT]; intro D' t1' t2' c' h' tk' F' N' l1'; (try k_lt l1'); (try dsimp only); (try k_fold)))))
  k_with "m call ref" => ((k_here; (with_reducible show wpAny _ _ (call (Value.ref 73) _) _ _ _); k_dflt (refine' use2 (by k_asm) (by k_asm) (by k_asm) (by k_asm) (by k_asm) (by first | exact rfl | assumption) (flo0_ok _ _ _ _ _ _ _ _ _ _ (by first | k_mem | exact List.Mem.tail _ (by assumption))) (by first | exact un3 (by assumption) (by exact rfl) | ktr_room) (by first | exact un3 (by assumption) (by exact rfl) | ktr_units) ?_; (dsimp only [RetId]; intro h' tk' F' N'; (try dsimp only); (try k_fold)))))
  k_fill
  w_top on
  intro dp un gd cn cs a ccd cl outer A₀ base h₀ L m s Q E B F X N T hk hd hu hret
  refine wpAny_call ?_
  k_dflt cell_enter
  k_steps
  all_goals first
    | (exfalso; omega)
    | (refine' endT hret ?e ?F ?N ?hm ?hn ?hl; (case F => assumption); (case N => assumption); (case hm => k_mem); (case hn => kcj_all); (case hl => first | assumption | (rename _ ∧ AllLt _ _ => hl9; exact ktn_ltOf hl9.2) | (rename _ ∧ _ ∧ AllLt _ _ => hl9; exact ktn_ltOf hl9.2.2) | (rename _ ∧ _ ∧ _ ∧ AllLt _ _ => hl9; exact ktn_ltOf hl9.2.2.2) | (rename _ ∧ _ ∧ _ ∧ _ ∧ AllLt _ _ => hl9; exact ktn_ltOf hl9.2.2.2.2)); (case e => simp only [Int.neg_neg]))
    | trace_state
set_option maxHeartbeats 8000000 in
theorem rd_ok (w : World) (s₀ : Shared) (mg mb : Str → Option Value) (news : List (Addr × Obj)) (A₁ : Addr) (p q sg d : Int) (t1 t2 : Tok) (c1 : Nat)
   (hA : (A₁, tup p t1 q t2 c1) ∈ news) (hq : 0 < q) (bp : bits p ≤ 2999) (bq : bits q ≤ 2999) (hX : p * M = (sg * (M * M - d)) * q) (hs : sg = 1 ∨ sg = -1) (h0 : 0 ≤ d) (hz : d ≠ 0) (h1 : d < 4) :
    Claim w s₀ mg mb 87 [.ref A₁] 6 news (RetT news sg 0) := by
  unfold Claim RetT
  k_with_none
  k_with "m eval Constant int" => ((k_here; dsimp only; walk_at "eval Constant int"))
  k_with "m newTuple" => ((k_here; dsimp only; walk_at "newTuple"))
  k_with "m newList" => ((k_here; dsimp only; walk_at "newList"))
  k_with "m callWith ref nil nil" => ((k_here; (with_reducible show wpAny _ _ (callWith _ (Value.ref _) _ (backTo _ (starEach [] _)) []) _ _ _); (with_reducible rename Fr _ _ _ _ => kF9); k_dflt (refine' callWith_K0 (by exact Frag.In.keeps (by k_asm) (Fr.keep kF9)) (by k_is) ?_; k_whole)))
  k_with "m subscriptTail Name Constant ref int" => ((k_here; (with_reducible show wpAny _ _ (subscriptTail _ _ (Value.ref _) (Value.int _ _)) _ _ _); k_dflt (refine' item_tupleT (by exact News.isTup (by k_asm) (by k_mem)) (by decide) (by decide) (by rfl) (by rfl) ?_; k_whole)))
  k_with "m bits_fit" => (first | assumption | exact bits_M | exact bits_Rt | exact bits_mul (by bits_fit) (by bits_fit) | exact bits_add2 (by bits_fit) (by bits_fit) | exact bits_sub2 (by bits_fit) (by bits_fit) | exact bits_neg (by bits_fit) | exact bits_pm (by assumption) | exact bits_nn (by assumption) (by assumption) (by decide) | exact bits_small (by decide) (by decide) | exact bits_small (by omega) (by omega))
  k_with "m call ref" => ((k_here; (with_reducible show wpAny _ _ (call (Value.ref 73) _) _ _ _); k_dflt (refine' use2 (by k_asm) (by k_asm) (by k_asm) (by k_asm) (by k_asm) (by first | exact rfl | assumption) (flo_ok _ _ _ _ _ _ _ _ _ _ _ (by k_mem) (by assumption) (by exact Nat.le_trans (by bits_fit) (by decide)) (by exact Nat.le_trans (by bits_fit) (by decide))) (by first | exact un3 (by assumption) (by exact rfl) | ktr_room) (by first | exact un3 (by assumption) (by exact rfl) | ktr_units) ?_; (dsimp only [RetT]; intro D' t1' t2' c' h' tk' F' N' l1'; (try k_lt l1'); (try dsimp only); (try k_fold)))))
  k_with "m call ref" => ((k_here; (with_reducible show wpAny _ _ (call (Value.ref 73) _) _ _ _); k_dflt (refine' use2 (by k_asm) (by k_asm) (by k_asm) (by k_asm) (by k_asm) (by first | exact rfl | assumption) (flo0_ok _ _ _ _ _ _ _ _ _ _ (by first | k_mem | exact List.Mem.tail _ (by assumption))) (by first | exact un3 (by assumption) (by exact rfl) | ktr_room) (by first | exact un3 (by assumption) (by exact rfl) | ktr_units) ?_; (dsimp only [RetId]; intro h' tk' F' N'; (try dsimp only); (try k_fold)))))
  k_with "m call ref" => ((k_here; (with_reducible show wpAny _ _ (call (Value.ref 59) _) _ _ _); k_dflt (refine' use2 (by k_asm) (by k_asm) (by k_asm) (by k_asm) (by k_asm) (by first | exact rfl | assumption) (plusw_ok _ _ _ _ _ _ _ _ _ _ _ _ _ _ _ _ _ (by first | k_mem | exact List.Mem.tail _ (by assumption)) (by first | k_mem | exact List.Mem.tail _ (by assumption)) (by assumption) (by assumption) (by assumption) (by assumption) (by assumption) (by assumption) (by assumption) (by assumption)) (by first | exact un3 (by assumption) (by exact rfl) | ktr_room) (by first | exact un3 (by assumption) (by exact rfl) | ktr_units) ?_; (dsimp only [RetP]; intro u' v' hW' D' t1' t2' c' h' tk' F' N' l1'; (try k_lt l1'); (rcases hW' with ⟨hs9, hu9, hv9⟩ | ⟨hs9, hv9, hf9, hbu9, hbv9⟩) <;> (first | (exfalso; omega) | (subst hu9; subst hv9) | skip); (try dsimp only); (try k_fold)))))
  k_fill
  w_top on
  intro dp un gd cn cs a ccd cl outer A₀ base h₀ L m s Q E B F X N T hk hd hu hret
  refine wpAny_call ?_
  k_dflt cell_enter
  k_steps
  all_goals first
    | (exfalso; omega)
    | (refine' endT hret ?e ?F ?N ?hm ?hn ?hl; (case F => assumption); (case N => assumption); (case hm => k_mem); (case hn => kcj_all); (case hl => first | assumption | (rename _ ∧ AllLt _ _ => hl9; exact ktn_ltOf hl9.2) | (rename _ ∧ _ ∧ AllLt _ _ => hl9; exact ktn_ltOf hl9.2.2) | (rename _ ∧ _ ∧ _ ∧ AllLt _ _ => hl9; exact ktn_ltOf hl9.2.2.2) | (rename _ ∧ _ ∧ _ ∧ _ ∧ AllLt _ _ => hl9; exact ktn_ltOf hl9.2.2.2.2)); (case e => first | (subst hs9; rfl) | (subst hs9; exact rd_val (by assumption))))
    | trace_state
set_option maxHeartbeats 8000000 in
theorem plusz_ok (w : World) (s₀ : Shared) (mg mb : Str → Option Value) (news : List (Addr × Obj)) (A₁ B₁ : Addr) (p : Int) (t1 t2 t3 t4 : Tok) (c1 c2 : Nat)
   (hA : (A₁, tup p t1 0 t2 c1) ∈ news) (hB : (B₁, tup 1 t3 2 t4 c2) ∈ news) (hp : p ≠ 0) :
    Claim w s₀ mg mb 59 [.ref A₁, .ref B₁] 2 news (RetId news A₁) := by
  unfold Claim RetId
  k_with_none
  k_with "m eval Constant int" => ((k_here; dsimp only; walk_at "eval Constant int"))
  k_with "m newTuple" => ((k_here; dsimp only; walk_at "newTuple"))
  k_with "m newList" => ((k_here; dsimp only; walk_at "newList"))
  k_with "m callWith ref nil nil" => ((k_here; (with_reducible show wpAny _ _ (callWith _ (Value.ref _) _ (backTo _ (starEach [] _)) []) _ _ _); (with_reducible rename Fr _ _ _ _ => kF9); k_dflt (refine' callWith_K0 (by exact Frag.In.keeps (by k_asm) (Fr.keep kF9)) (by k_is) ?_; k_whole)))
  k_with "m subscriptTail Name Constant ref int" => ((k_here; (with_reducible show wpAny _ _ (subscriptTail _ _ (Value.ref _) (Value.int _ _)) _ _ _); k_dflt (refine' item_tupleT (by exact News.isTup (by k_asm) (by k_mem)) (by decide) (by decide) (by rfl) (by rfl) ?_; k_whole)))
  k_with "m ite" => (first | refine ite_pos (by first | exact beq_iff_eq.mpr (by assumption) | exact decide_eq_true (by first | assumption | omega)) ?_ | refine ite_neg (by first | exact (fun h => absurd (beq_iff_eq.mp h) (by first | assumption | omega)) | exact (fun h => absurd (of_decide_eq_true h) (by first | assumption | omega))) ?_)
  k_with "m call ref" => ((k_here; (with_reducible show wpAny _ _ (call (Value.ref 45) _) _ _ _); k_dflt (refine' use2 (by k_asm) (by k_asm) (by k_asm) (by k_asm) (by k_asm) (by first | exact rfl | assumption) (nan_ok _ _ _ _ _ _ _ _ _ _ _ (by first | assumption | k_mem) (by first | assumption | omega)) (by first | exact un3 (by assumption) (by exact rfl) | ktr_room) (by first | exact un3 (by assumption) (by exact rfl) | ktr_units) ?_; (dsimp only [RetB]; intro h' tk' F' N'; (try dsimp only); (try k_fold)))))
  k_with "m call ref" => ((k_here; (with_reducible show wpAny _ _ (call (Value.ref 45) _) _ _ _); k_dflt (refine' use2 (by k_asm) (by k_asm) (by k_asm) (by k_asm) (by k_asm) (by first | exact rfl | assumption) (nanz_ok _ _ _ _ _ _ _ _ _ _ _ (by first | assumption | k_mem) (by first | assumption | omega)) (by first | exact un3 (by assumption) (by exact rfl) | ktr_room) (by first | exact un3 (by assumption) (by exact rfl) | ktr_units) ?_; (dsimp only [RetB]; intro h' tk' F' N'; (try dsimp only); (try k_fold)))))
  k_fill
  w_top on
  intro dp un gd cn cs a ccd cl outer A₀ base h₀ L m s Q E B F X N T hk hd hu hret
  refine wpAny_call ?_
  k_dflt cell_enter
  k_steps
  all_goals first
    | (exfalso; omega)
    | (refine' endId hret ?F ?N ?hn; (case F => assumption); (case N => assumption); (case hn => kcj_all))
    | trace_state
set_option maxHeartbeats 8000000 in
theorem rd0_ok (w : World) (s₀ : Shared) (mg mb : Str → Option Value) (news : List (Addr × Obj)) (A₁ : Addr) (p : Int) (t1 t2 : Tok) (c1 : Nat)
   (hA : (A₁, tup p t1 0 t2 c1) ∈ news) (hp : p ≠ 0) :
    Claim w s₀ mg mb 87 [.ref A₁] 6 news (RetId news A₁) := by
  unfold Claim RetId
  k_with_none
  k_with "m eval Constant int" => ((k_here; dsimp only; walk_at "eval Constant int"))
  k_with "m newTuple" => ((k_here; dsimp only; walk_at "newTuple"))
  k_with "m newList" => ((k_here; dsimp only; walk_at "newList"))
  k_with "m callWith ref nil nil" => ((k_here; (with_reducible show wpAny _ _ (callWith _ (Value.ref _) _ (backTo _ (starEach [] _)) []) _ _ _); (with_reducible rename Fr _ _ _ _ => kF9); k_dflt (refine' callWith_K0 (by exact Frag.In.keeps (by k_asm) (Fr.keep kF9)) (by k_is) ?_; k_whole)))
  k_with "m subscriptTail Name Constant ref int" => ((k_here; (with_reducible show wpAny _ _ (subscriptTail _ _ (Value.ref _) (Value.int _ _)) _ _ _); k_dflt (refine' item_tupleT (by exact News.isTup (by k_asm) (by k_mem)) (by decide) (by decide) (by rfl) (by rfl) ?_; k_whole)))
  k_with "m call ref" => ((k_here; (with_reducible show wpAny _ _ (call (Value.ref 73) _) _ _ _); k_dflt (refine' use2 (by k_asm) (by k_asm) (by k_asm) (by k_asm) (by k_asm) (by first | exact rfl | assumption) (flo0_ok _ _ _ _ _ _ _ _ _ _ (by first | k_mem | exact List.Mem.tail _ (by assumption))) (by first | exact un3 (by assumption) (by exact rfl) | ktr_room) (by first | exact un3 (by assumption) (by exact rfl) | ktr_units) ?_; (dsimp only [RetId]; intro h' tk' F' N'; (try dsimp only); (try k_fold)))))
  k_with "m call ref" => ((k_here; (with_reducible show wpAny _ _ (call (Value.ref 59) _) _ _ _); k_dflt (refine' use2 (by k_asm) (by k_asm) (by k_asm) (by k_asm) (by k_asm) (by first | exact rfl | assumption) (plusz_ok _ _ _ _ _ _ _ _ _ _ _ _ _ _ (by first | k_mem | exact List.Mem.tail _ (by assumption)) (by k_mem) (by assumption)) (by first | exact un3 (by assumption) (by exact rfl) | ktr_room) (by first | exact un3 (by assumption) (by exact rfl) | ktr_units) ?_; (dsimp only [RetId]; intro h' tk' F' N'; (try dsimp only); (try k_fold)))))
  k_fill
  w_top on
  intro dp un gd cn cs a ccd cl outer A₀ base h₀ L m s Q E B F X N T hk hd hu hret
  refine wpAny_call ?_
  k_dflt cell_enter
  k_steps
  all_goals first
    | (exfalso; omega)
    | (refine' endId hret ?F ?N ?hn; (case F => assumption); (case N => assumption); (case hn => kcj_all))
    | trace_state
end
section
open PySem.Calls
theorem wfin_pos {p q sg d : Int} (hX : p * M = (sg * (M * M - d)) * q) (hs : sg = 1 ∨ sg = -1) (hp : 0 < sg) (hq : 0 < q) (h0 : 0 ≤ d) (hz : d ≠ 0) (h1 : d < 4) :
   [((due1 (Int.fdiv p q) 1).1, (due1 (Int.fdiv p q) 1).2), (-(due1 (Int.fdiv (-p) q) 1).1, (due1 (Int.fdiv (-p) q) 1).2), (sg, 0)] = [(M - 1, 1), (1, 0), (1, 0)] := by
  rcases hs with rfl | rfl
  · have ⟨a, b⟩ := fl_pos hq h0 hz h1 hX
    rw [a, b, due1_M1, due1_nM]
    rfl
  · omega
theorem wfin_neg {p q sg d : Int} (hX : p * M = (sg * (M * M - d)) * q) (hs : sg = 1 ∨ sg = -1) (hp : ¬ 0 < sg) (hq : 0 < q) (h0 : 0 ≤ d) (hz : d ≠ 0) (h1 : d < 4) :
   [((due1 (Int.fdiv p q) 1).1, (due1 (Int.fdiv p q) 1).2), (-(due1 (Int.fdiv (-p) q) 1).1, (due1 (Int.fdiv (-p) q) 1).2), (sg, 0)] = [(-1, 0), (1 - M, 1), (-1, 0)] := by
  rcases hs with rfl | rfl
  · omega
  · have ⟨a, b⟩ := fl_neg hq h0 hz h1 hX
    rw [a, b, due1_M1, due1_nM]
    have : -(M - 1) = 1 - M := by omega
    rw [this]
set_option maxHeartbeats 8000000 in
theorem whole_ok (w : World) (s₀ : Shared) (mg mb : Str → Option Value) (S : Addr) (a : Int) (ta : Tok) (b : Int) (tb : Tok) (c : Nat)
   (ha : 0 ≤ a) (hb : 0 ≤ b) (hb2 : b < 2147483647) :
    Claim w s₀ mg mb 192 [.ref S] 20 [(S, lst2 a ta b tb c)] (RetPart S) := by
  unfold Claim RetPart
  k_with_none
  k_with "m eval Constant int" => ((k_here; dsimp only; walk_at "eval Constant int"))
  k_with "m newTuple" => ((k_here; dsimp only; walk_at "newTuple"))
  k_with "m newList" => ((k_here; dsimp only; walk_at "newList"))
  k_with "m callWith ref nil nil" => ((k_here; (with_reducible show wpAny _ _ (callWith _ (Value.ref _) _ (backTo _ (starEach [] _)) []) _ _ _); (with_reducible rename Fr _ _ _ _ => kF9); k_dflt (refine' callWith_K0 (by exact Frag.In.keeps (by k_asm) (Fr.keep kF9)) (by k_is) ?_; k_whole)))
  k_with "m ite" => (first | refine ite_pos (by first | exact beq_iff_eq.mpr (by assumption) | exact decide_eq_true (by first | assumption | omega)) ?_ | refine ite_neg (by first | exact (fun h => absurd (beq_iff_eq.mp h) (by first | assumption | omega)) | exact (fun h => absurd (of_decide_eq_true h) (by first | assumption | omega))) ?_)
  k_with "m call ref" => ((k_here; (with_reducible show wpAny _ _ (call (Value.ref 45) _) _ _ _); k_dflt (refine' use2 (by k_asm) (by k_asm) (by k_asm) (by k_asm) (by k_asm) (by first | exact rfl | assumption) (nan_ok _ _ _ _ _ _ _ _ _ _ _ (by first | assumption | k_mem) (by first | assumption | omega)) (by first | exact un3 (by assumption) (by exact rfl) | ktr_room) (by first | exact un3 (by assumption) (by exact rfl) | ktr_units) ?_; (dsimp only [RetB]; intro h' tk' F' N'; (try dsimp only); (try k_fold)))))
  k_with "m call ref" => ((k_here; (with_reducible show wpAny _ _ (call (Value.ref 45) _) _ _ _); k_dflt (refine' use2 (by k_asm) (by k_asm) (by k_asm) (by k_asm) (by k_asm) (by first | exact rfl | assumption) (nanz_ok _ _ _ _ _ _ _ _ _ _ _ (by first | assumption | k_mem) (by first | assumption | omega)) (by first | exact un3 (by assumption) (by exact rfl) | ktr_room) (by first | exact un3 (by assumption) (by exact rfl) | ktr_units) ?_; (dsimp only [RetB]; intro h' tk' F' N'; (try dsimp only); (try k_fold)))))
  k_with "m bits_fit" => (first | assumption | exact bits_M | exact bits_Rt | exact bits_mul (by bits_fit) (by bits_fit) | exact bits_add2 (by bits_fit) (by bits_fit) | exact bits_sub2 (by bits_fit) (by bits_fit) | exact bits_neg (by bits_fit) | exact bits_pm (by assumption) | exact bits_nn (by assumption) (by assumption) (by decide) | exact bits_small (by decide) (by decide) | exact bits_small (by omega) (by omega))
  k_with "m mul_fits" => (first | exact mul_ok (Nat.le_trans (by bits_fit) (by decide)) (Nat.le_trans (by bits_fit) (by decide)))
  k_with "m binaryOp FloorDiv int int" => ((refine' floordiv_int (by omega) ?_ (Or.inl (noPy9 (by first | assumption | exact Nat.le_trans (by assumption) (by decide))))))
  k_with "m subscriptTail Name Constant ref int" => ((k_here; (with_reducible show wpAny _ _ (subscriptTail _ _ (Value.ref _) (Value.int _ _)) _ _ _); k_dflt (refine' item_tupleT (by exact News.isTup (by k_asm) (by k_mem)) (by decide) (by decide) (by rfl) (by rfl) ?_; k_whole)))
  k_with "m subscriptTail Name Constant ref int" => ((k_here; (with_reducible show wpAny _ _ (subscriptTail _ _ (Value.ref _) (Value.int _ _)) _ _ _); k_dflt (refine' getItem_at (by exact mem_news (by k_asm) (by k_mem)) (by decide) (by decide) (by rfl) ?_; k_whole)))
  k_with "m binaryOp Pow int int" => (((with_reducible show wpAny _ _ (binaryOp Operator.Pow (Value.int M _) (Value.int 2 _)) _ _ _); (refine' powM ?_)))
  k_with "m call ref" => ((k_here; (with_reducible show wpAny _ _ (call (Value.ref 136) _) _ _ _); k_dflt (refine' use2 (by k_asm) (by k_asm) (by k_asm) (by k_asm) (by k_asm) (by first | exact rfl | assumption) (bound_ok _ _ _ _ _) (by first | exact un3 (by assumption) (by exact rfl) | ktr_room) (by first | exact un3 (by assumption) (by exact rfl) | ktr_units) ?_; (dsimp only [RetI]; intro t' h' tk' F' N'; (try dsimp only); (try k_fold)))))
  k_with "m call ref" => ((k_here; (with_reducible show wpAny _ _ (call (Value.ref 150) _) _ _ _); k_dflt (refine' use2 (by k_asm) (by k_asm) (by k_asm) (by first | assumption | exact swap1 (by assumption) | exact swap2 (by assumption) | exact swap3 (by assumption) | exact swap4 (by assumption) | exact swap5 (by assumption) | exact swap6 (by assumption)) (by k_asm) (by first | exact rfl | assumption) (take_ok _ _ _ _ _ _ _ _ _ _ _ _ _ (by k_all) (by first | assumption | omega | decide) (by first | assumption | omega | decide) (by assumption) (by assumption) (by assumption)) (by first | exact un3 (by assumption) (by exact rfl) | ktr_room) (by first | exact un3 (by assumption) (by exact rfl) | ktr_units) ?_; (dsimp only [RetTake]; intro d' td' a' ta' b' tb' c' h' tk' hd0 hd1 ha' hb' hb2' F' N'; (try dsimp only); (try k_fold)))))
  k_with "m call ref" => ((k_here; (with_reducible show wpAny _ _ (call (Value.ref 157) _) _ _ _); k_dflt (refine' use2 (by k_asm) (by k_asm) (by k_asm) (by first | assumption | exact swap1 (by assumption) | exact swap2 (by assumption) | exact swap3 (by assumption) | exact swap4 (by assumption) | exact swap5 (by assumption) | exact swap6 (by assumption)) (by k_asm) (by first | exact rfl | assumption) (one_ok _ _ _ _ _ _ _ _ _ _ _ _ _ _ (by k_mem) (by k_all) (by assumption) (by assumption) (by assumption) (by simp; done) (by simp; done)) (by first | exact un3 (by assumption) (by exact rfl) | ktr_room) (by first | exact un3 (by assumption) (by exact rfl) | ktr_units) ?_; (dsimp only [RetOne]; intro v' a' ta' b' tb' c' h' tk' hv' ha' hb' hb2' F' N'; (first | (obtain ⟨x', tx', hx', hs'⟩ := one2 hv') | (obtain ⟨x', tx', hx', hs', hsM', hsb'⟩ := bot5 hv') | (obtain ⟨x', tx', hx', hs'⟩ := str3 hv') | (obtain ⟨x', tx', hx', hs'⟩ := str2 hv')); subst hx'; clear hv'; (try dsimp only); (try k_fold)))))
  k_with "m call ref" => ((k_here; (with_reducible show wpAny _ _ (call (Value.ref 164) _) _ _ _); k_dflt (refine' use2 (by k_asm) (by k_asm) (by k_asm) (by k_asm) (by k_asm) (by first | exact rfl | assumption) (low_ok _ _ _ _ _ _ _ _ _ (by exact M_pos) (by exact Nat.le_trans (bits_wx (by assumption) (by assumption) (by assumption)) (by decide)) (by exact bits_M6)) (by first | exact un3 (by assumption) (by exact rfl) | ktr_room) (by first | exact un3 (by assumption) (by exact rfl) | ktr_units) ?_; (dsimp only [RetT]; intro D' t1' t2' c' h' tk' F' N' l1'; (try k_lt l1'); (try dsimp only); (try k_fold)))))
  k_with "m call ref" => ((k_here; (with_reducible show wpAny _ _ (call (Value.ref 38) _) _ _ _); k_dflt (refine' use2 (by k_asm) (by k_asm) (by k_asm) (by k_asm) (by k_asm) (by first | exact rfl | assumption) (numw_ok _ _ _ _ _ _ _ _ _ (by assumption) (by assumption) (by assumption)) (by first | exact un3 (by assumption) (by exact rfl) | ktr_room) (by first | exact un3 (by assumption) (by exact rfl) | ktr_units) ?_; (dsimp only [RetW]; intro p' q' hW' D' t1' t2' c' h' tk' F' N' l1'; (try k_lt l1'); (rcases hW' with ⟨hd9, hp9, hq9⟩ | ⟨hd9, he9, hq9, hX9, hbp9, hbq9⟩) <;> (first | (subst hp9; subst hq9) | skip); (try dsimp only); (try k_fold)))))
  k_with "m call ref" => ((k_here; (with_reducible show wpAny _ _ (call (Value.ref 73) _) _ _ _); k_dflt (refine' use2 (by k_asm) (by k_asm) (by k_asm) (by k_asm) (by k_asm) (by first | exact rfl | assumption) (flo_ok _ _ _ _ _ _ _ _ _ _ _ (by k_mem) (by assumption) (by exact Nat.le_trans (by bits_fit) (by decide)) (by exact Nat.le_trans (by bits_fit) (by decide))) (by first | exact un3 (by assumption) (by exact rfl) | ktr_room) (by first | exact un3 (by assumption) (by exact rfl) | ktr_units) ?_; (dsimp only [RetT]; intro D' t1' t2' c' h' tk' F' N' l1'; (try k_lt l1'); (try dsimp only); (try k_fold)))))
  k_with "m call ref" => ((k_here; (with_reducible show wpAny _ _ (call (Value.ref 80) _) _ _ _); k_dflt (refine' use2 (by k_asm) (by k_asm) (by k_asm) (by k_asm) (by k_asm) (by first | exact rfl | assumption) (ceil_ok _ _ _ _ _ _ _ _ _ _ _ (by k_mem) (by assumption) (by exact Nat.le_trans (by bits_fit) (by decide)) (by exact Nat.le_trans (by bits_fit) (by decide))) (by first | exact un3 (by assumption) (by exact rfl) | ktr_room) (by first | exact un3 (by assumption) (by exact rfl) | ktr_units) ?_; (dsimp only [RetT]; intro D' t1' t2' c' h' tk' F' N' l1'; (try k_lt l1'); (try dsimp only); (try k_fold)))))
  k_with "m call ref" => ((k_here; (with_reducible show wpAny _ _ (call (Value.ref 80) _) _ _ _); k_dflt (refine' use2 (by k_asm) (by k_asm) (by k_asm) (by k_asm) (by k_asm) (by first | exact rfl | assumption) (ceil0_ok _ _ _ _ _ _ _ _ _ _ (by k_mem)) (by first | exact un3 (by assumption) (by exact rfl) | ktr_room) (by first | exact un3 (by assumption) (by exact rfl) | ktr_units) ?_; (dsimp only [RetT]; intro D' t1' t2' c' h' tk' F' N' l1'; (try k_lt l1'); (try dsimp only); (try k_fold)))))
  k_with "m call ref" => ((k_here; (with_reducible show wpAny _ _ (call (Value.ref 87) _) _ _ _); k_dflt (refine' use2 (by k_asm) (by k_asm) (by k_asm) (by k_asm) (by k_asm) (by first | exact rfl | assumption) (rd_ok _ _ _ _ _ _ _ _ _ _ _ _ _ (by k_mem) (by assumption) (by assumption) (by assumption) (by assumption) (by assumption) (by assumption) (by assumption) (by assumption)) (by first | exact un3 (by assumption) (by exact rfl) | ktr_room) (by first | exact un3 (by assumption) (by exact rfl) | ktr_units) ?_; (dsimp only [RetT]; intro D' t1' t2' c' h' tk' F' N' l1'; (try k_lt l1'); (try dsimp only); (try k_fold)))))
  k_with "m call ref" => ((k_here; (with_reducible show wpAny _ _ (call (Value.ref 87) _) _ _ _); k_dflt (refine' use2 (by k_asm) (by k_asm) (by k_asm) (by k_asm) (by k_asm) (by first | exact rfl | assumption) (rd0_ok _ _ _ _ _ _ _ _ _ _ (by k_mem) (by first | assumption | omega)) (by first | exact un3 (by assumption) (by exact rfl) | ktr_room) (by first | exact un3 (by assumption) (by exact rfl) | ktr_units) ?_; (dsimp only [RetId]; intro h' tk' F' N'; (try dsimp only); (try k_fold)))))
  k_with "m call ref" => ((k_here; (with_reducible show wpAny _ _ (call (Value.ref 73) _) _ _ _); k_dflt (refine' use2 (by k_asm) (by k_asm) (by k_asm) (by k_asm) (by k_asm) (by first | exact rfl | assumption) (flo0_ok _ _ _ _ _ _ _ _ _ _ (by first | k_mem | exact List.Mem.tail _ (by assumption))) (by first | exact un3 (by assumption) (by exact rfl) | ktr_room) (by first | exact un3 (by assumption) (by exact rfl) | ktr_units) ?_; (dsimp only [RetId]; intro h' tk' F' N'; (try dsimp only); (try k_fold)))))
  k_with "m compareOp NotEq ref ref" => ((k_here; (with_reducible show wpAny _ _ (compareOp CmpOp.NotEq (Value.ref _) (Value.ref _)) _ _ _); k_dflt (refine' ne_tup (by k_asm) (by k_mem) (by k_mem) (by first | exact un3 (by assumption) (by exact rfl) | ktr_units) (by assumption) ?_; k_whole)))
  k_with "m compareOp Eq ref ref" => ((k_here; (with_reducible show wpAny _ _ (compareOp CmpOp.Eq (Value.ref _) (Value.ref _)) _ _ _); k_dflt (refine' eq_plist (by k_asm) (by k_mem) (by k_mem) (by first | exact PairsIn.cons (by k_mem) (PairsIn.cons (by k_mem) PairsIn.nil) | exact PairsIn.cons (by k_mem) (PairsIn.cons (by k_mem) (PairsIn.cons (by k_mem) PairsIn.nil)) | exact PairsIn.cons (by k_mem) (PairsIn.cons (by k_mem) (PairsIn.cons (by k_mem) (PairsIn.cons (by k_mem) PairsIn.nil)))) (by first | exact PairsIn.cons (by k_mem) (PairsIn.cons (by k_mem) PairsIn.nil) | exact PairsIn.cons (by k_mem) (PairsIn.cons (by k_mem) (PairsIn.cons (by k_mem) PairsIn.nil)) | exact PairsIn.cons (by k_mem) (PairsIn.cons (by k_mem) (PairsIn.cons (by k_mem) (PairsIn.cons (by k_mem) PairsIn.nil)))) (by first | exact un3 (by assumption) (by exact rfl) | ktr_units) (by first | exact wfin_pos (by assumption) (by assumption) (by assumption) (by assumption) (by assumption) (by assumption) (by assumption) | exact wfin_neg (by assumption) (by assumption) (by assumption) (by assumption) (by assumption) (by assumption) (by assumption) | rfl) ?_; k_whole)))
  k_fill
  w_top on
  intro dp un gd cn cs a ccd cl outer A₀ base h₀ L m s Q E B F X N T hk hd hu hret
  refine wpAny_call ?_
  k_dflt cell_enter
  k_steps
  all_goals first
    | (rename News _ _ _ _ => kN9; refine' hret _ _ _ _ _ _ _ ?e2 ?e3 ?e4 ?eF ?eN; (case eF => assumption); (case eN => exact news_one kN9 (by k_mem)); (case e2 => assumption); (case e3 => assumption); (case e4 => assumption))
    | trace_state
end
section
open PySem.Calls
def code (x : Str) (i : Int) : Nat := (Txt.charAt x i).getD 0
theorem item_code (x : Str) (i : Int) : Txt.item x i = ⟨#[code x i]⟩ := rfl
theorem in_digits {x : Str} {i : Int} : (Builtin.Str.occurrences (Str.ofString "0123456789") (Txt.item x i) 0 (Str.ofString "0123456789").length 1).isEmpty = !decide (48 ≤ code x i ∧ code x i ≤ 57) := by
  rw [item_code]
  have h := StrLaws.found_one (Str.ofString "0123456789") (code x i)
  have e : (Str.ofString "0123456789").cps.toList = [48, 49, 50, 51, 52, 53, 54, 55, 56, 57] := by decide +kernel
  rw [e] at h
  have h2 : decide (code x i ∈ [48, 49, 50, 51, 52, 53, 54, 55, 56, 57]) = decide (48 ≤ code x i ∧ code x i ≤ 57) := by
    rw [decide_eq_decide, show [48, 49, 50, 51, 52, 53, 54, 55, 56, 57] = List.range' 48 10 from rfl, List.mem_range'_1]
    exact ⟨fun h => ⟨h.1, Nat.le_of_lt_succ h.2⟩, fun h => ⟨h.1, Nat.lt_succ_of_le h.2⟩⟩
  rw [← h2, ← h, Bool.not_not]
theorem de_turn {x : Str} {k e at0 : Int} (hd : ∀ i, at0 ≤ i → i < e → 48 ≤ code x i ∧ code x i ≤ 57) (hz : e = x.length ∨ ¬ (48 ≤ code x e ∧ code x e ≤ 57)) (h1 : at0 ≤ k) (h2 : k ≤ e) (hl : k < (x.length : Int))
   (h : (Builtin.Str.occurrences (Str.ofString "0123456789") (Txt.item x k) 0 (Str.ofString "0123456789").length 1).isEmpty = false) : k < e := by
  rw [in_digits] at h
  have h' : 48 ≤ code x k ∧ code x k ≤ 57 := by simpa using h
  rcases Int.lt_or_eq_of_le h2 with h3 | h3
  · exact h3
  · subst h3
    rcases hz with hz | hz
    · omega
    · exact absurd h' hz
theorem de_end {x : Str} {k e at0 : Int} (hd : ∀ i, at0 ≤ i → i < e → 48 ≤ code x i ∧ code x i ≤ 57) (h1 : at0 ≤ k) (h2 : k ≤ e)
   (h : (Builtin.Str.occurrences (Str.ofString "0123456789") (Txt.item x k) 0 (Str.ofString "0123456789").length 1).isEmpty = true) : k = e := by
  rw [in_digits] at h
  have h' : ¬ (48 ≤ code x k ∧ code x k ≤ 57) := by
    intro q
    rw [decide_eq_true q] at h
    cases h
  rcases Int.lt_or_eq_of_le h2 with h3 | h3
  · exact absurd (hd k h1 h3) h'
  · exact h3
theorem de_end2 {k e n : Int} (h2 : k ≤ e) (he : e ≤ n) (h : ¬ k < n) : k = e := by omega
set_option maxHeartbeats 4000000 in
theorem de_ok (w : World) (s₀ : Shared) (mg mb : Str → Option Value) (news : List (Addr × Obj)) (x : Str) (t1 t2 : Tok) (at0 e : Int) (hd : ∀ i, at0 ≤ i → i < e → 48 ≤ code x i ∧ code x i ≤ 57) (hx : x.length ≤ 4000) (h0 : 0 ≤ at0) (he : at0 ≤ e) (hel : e ≤ (x.length : Int)) (hz : e = x.length ∨ ¬ (48 ≤ code x e ∧ code x e ≤ 57)) :
    Claim w s₀ mg mb 94 [.str x t1, .int at0 t2] 1 news (RetI news e) := by
  unfold Claim RetI
  k_with_none
  k_fill
  w_top on
  intro dp un gd cn cs a ccd cl outer A₀ base h₀ L m s Q E B F X N T hk hdp hu hret
  refine wpAny_call ?_
  k_dflt cell_enter
  k_with "exec While BoolOp cons nil" => k_while (fun _ k => at0 ≤ k ∧ k ≤ e) (fun _ k => (e - k).toNat) "at"
  k_with "state" => first | exact ⟨Int.le_refl _, he⟩ | (have q9 := de_turn hd hz (by assumption) (by assumption) (by assumption) (by assumption); omega)
  k_with "measure" => (have q9 := de_turn hd hz (by assumption) (by assumption) (by assumption) (by assumption); omega)
  k_steps
  all_goals first
    | (refine' cb_retI hret ?e ?F ?N; (case F => assumption); (case N => assumption); (case e => first | exact de_end hd (by assumption) (by assumption) (by assumption) | exact de_end2 (by assumption) hel (by assumption)))
    | trace_state
end
section
open PySem.Calls
abbrev cl (x : Str) : List Nat := x.cps.toList
theorem cl_len (x : Str) : (cl x).length = x.length := Array.length_toList
theorem cl_ext {x y : Str} (h : cl x = cl y) : x = y := by
  obtain ⟨⟨a⟩⟩ := x
  obtain ⟨⟨b⟩⟩ := y
  have : a = b := h
  rw [this]
theorem cl_append (x y : Str) : cl (x ++ y) = cl x ++ cl y := by
  show (x.cps ++ y.cps).toList = _
  simp
theorem len_append (x y : Str) : (x ++ y).length = x.length + y.length := strLen_append x y
theorem idx_min {n : Nat} {i j : Int} (hi : 0 ≤ i) (hj : 0 ≤ j) : Builtin.Str.strSliceIndices (some i) (some j) 1 n = Builtin.Str.strSliceIndices (some (min i n)) (some (min j n)) 1 n := by
  have h0 : ¬ i < 0 := by omega
  have h1 : ¬ j < 0 := by omega
  have h2 : (1 : Int) > 0 := by decide
  have h3 : ¬ (min i (n : Int) < 0) := by omega
  have h4 : ¬ (min j (n : Int) < 0) := by omega
  have h5 : min (min i (n : Int)) n = min i n := by omega
  have h6 : min (min j (n : Int)) n = min j n := by omega
  simp only [Builtin.Str.strSliceIndices, h0, h1, h2, h3, h4, h5, h6, if_false, if_true]
theorem sl_ss {x : Str} {i j : Int} (hi : 0 ≤ i) (hij : i ≤ j) : cl (Txt.slice x (some i) (some j)) = ((cl x).drop i.toNat).take (j - i).toNat := by
  have e : Txt.slice x (some i) (some j) = Txt.slice x (some (min i (x.length : Int))) (some (min j (x.length : Int))) := by
    unfold Txt.slice
    rw [idx_min hi (by omega)]
  have hl := cl_len x
  have e2 := beq_iff_eq.mp (slice_closes (x := x) (i := min i (x.length : Int)) (j := min j (x.length : Int)) ⟨by omega, by omega, by show min j (x.length : Int) ≤ ((cl x).length : Int); omega⟩)
  rw [e, e2]
  show ((cl x).drop (min i (x.length : Int)).toNat).take (min j (x.length : Int) - min i (x.length : Int)).toNat = _
  rw [← hl]
  rcases Int.lt_or_le i ((cl x).length : Int) with h1 | h1
  · rw [show min i ((cl x).length : Int) = i by omega]
    rcases Int.lt_or_le j ((cl x).length : Int) with h2 | h2
    · rw [show min j ((cl x).length : Int) = j by omega]
    · rw [show min j ((cl x).length : Int) = ((cl x).length : Int) by omega, List.take_of_length_le (by rw [List.length_drop]; omega), List.take_of_length_le (by rw [List.length_drop]; omega)]
  · rw [show min i ((cl x).length : Int) = ((cl x).length : Int) by omega, List.drop_eq_nil_of_le (by omega), List.drop_eq_nil_of_le (by omega), List.take_nil, List.take_nil]
theorem sl_to {x : Str} {j : Int} (hj : 0 ≤ j) : cl (Txt.slice x none (some j)) = (cl x).take j.toNat := by
  have e : Txt.slice x none (some j) = Txt.slice x (some 0) (some j) := by
    unfold Txt.slice
    have : Builtin.Str.strSliceIndices none (some j) 1 x.length = Builtin.Str.strSliceIndices (some 0) (some j) 1 x.length := by
      have h0 : ¬ ((0 : Int) < 0) := by decide
      have h2 : (1 : Int) > 0 := by decide
      have h3 : max 0 (min (0 : Int) (x.length : Int)) = 0 := by omega
      simp only [Builtin.Str.strSliceIndices, h0, h2, h3, if_false, if_true]
    rw [this]
  rw [e, sl_ss (Int.le_refl 0) hj]
  simp
theorem sl_from {x : Str} {i : Int} (hi : 0 ≤ i) : cl (Txt.slice x (some i) none) = (cl x).drop i.toNat := by
  rcases Int.lt_or_le (x.length : Int) i with h | h
  · rw [slice_beyond (by omega), List.drop_eq_nil_of_le (by rw [cl_len]; omega)]
    rfl
  · rw [slice_from_eq (b := (x.length : Int)) hi h rfl]
    show ((cl x).drop i.toNat).take ((x.length : Int) - i).toNat = _
    rw [List.take_of_length_le (by rw [List.length_drop, cl_len]; omega)]
theorem code_get {x : Str} {i : Int} (hi : 0 ≤ i) : code x i = ((cl x)[i.toNat]?).getD 0 := by
  unfold code Txt.charAt
  have hl := cl_len x
  rcases Int.lt_or_le i (x.length : Int) with h | h
  · have e : seqIndex? i x.length = some i.toNat := by
      unfold seqIndex?
      have c : (decide (0 ≤ i) && decide (i < (x.length : Int))) = true := by rw [decide_eq_true hi, decide_eq_true h]; rfl
      simp only [show ¬ i < 0 by omega, if_false]
      rw [if_pos c]
    rw [e]
    show (x.cps[i.toNat]?).getD 0 = _
    rw [← Array.getElem?_toList]
  · have e : seqIndex? i x.length = none := by
      unfold seqIndex?
      have c : ¬ (decide (0 ≤ i) && decide (i < (x.length : Int))) = true := by rw [decide_eq_false (by omega : ¬ i < (x.length : Int)), Bool.and_false]; decide
      simp only [show ¬ i < 0 by omega, if_false]
      rw [if_neg c]
    rw [e, List.getElem?_eq_none (by omega)]
    rfl
theorem in_spaces {x : Str} {i : Int} : (Builtin.Str.occurrences (Str.ofString " \t\n\r") (Txt.item x i) 0 (Str.ofString " \t\n\r").length 1).isEmpty = !decide (code x i = 32 ∨ code x i = 9 ∨ code x i = 10 ∨ code x i = 13) := by
  rw [item_code]
  have h := StrLaws.found_one (Str.ofString " \t\n\r") (code x i)
  have e : (Str.ofString " \t\n\r").cps.toList = [32, 9, 10, 13] := by decide +kernel
  rw [e] at h
  have h2 : decide (code x i ∈ [32, 9, 10, 13]) = decide (code x i = 32 ∨ code x i = 9 ∨ code x i = 10 ∨ code x i = 13) := by
    rw [decide_eq_decide]
    simp only [List.mem_cons, List.not_mem_nil, or_false]
  rw [← h2, ← h, Bool.not_not]
theorem tr_no {x : Str} {i : Int} (h1 : 33 ≤ code x i)
   (h : (Builtin.Str.occurrences (Str.ofString " \t\n\r") (Txt.item x i) 0 (Str.ofString " \t\n\r").length 1).isEmpty = false) : False := by
  rw [in_spaces] at h
  have : ¬ (code x i = 32 ∨ code x i = 9 ∨ code x i = 10 ∨ code x i = 13) := by omega
  rw [decide_eq_false this] at h
  cases h
theorem item_eq {x : Str} {i : Int} {c : Nat} : (Txt.item x i == (⟨#[c]⟩ : Str)) = decide (code x i = c) := by
  rw [item_code]
  by_cases h : code x i = c
  · rw [h, decide_eq_true rfl]; exact beq_self_eq_true _
  · rw [decide_eq_false h]
    refine beq_eq_false_iff_ne.mpr fun q => h ?_
    injection q with q
    injection q with q
    injection q
theorem tr_all {x : Str} {a b : Int} (ha : a = 0) (hb : b = (x.length : Int)) : Txt.slice x (some a) (some b) = x := by
  subst ha hb
  apply cl_ext
  rw [sl_ss (Int.le_refl 0) (by omega), List.take_of_length_le (by rw [List.length_drop, cl_len]; omega)]
  rfl
end
section
open PySem.Calls
abbrev RetS (news : List (Addr × Obj)) (x : Str) : Heap → Addr → (Str → Option Value) → Shared → (Value → Shared → Prop) → Prop :=
  fun h₀ L m s Q => ∀ (t : Tok) (h' : Heap) (tk' : Nat), Fr h₀ L h' m → News h₀ L h' news → Q (.str x t) { s with heap := h', toks := tk' }
theorem endS {h₀ h' : Heap} {L : Addr} {m : Str → Option Value} {news news' : List (Addr × Obj)} {s : Shared} {Q : Value → Shared → Prop} {t : Tok} {tk' : Nat} {x y : Str}
   (hret : ∀ (t : Tok) (h' : Heap) (tk' : Nat), Fr h₀ L h' m → News h₀ L h' news → Q (.str x t) { s with heap := h', toks := tk' }) (e : y = x) (F : Fr h₀ L h' m) (N : News h₀ L h' news') (hn : ∀ p ∈ news, p ∈ news') : Q (.str y t) { s with heap := h', toks := tk' } := by
  subst e
  exact hret t h' tk' F (fun p hp => N p (hn p hp))
theorem tr_no1 {x : Str} {k : Int} {P : Prop} (hc : 33 ≤ code x 0) (hk : k = 0) (h : (Builtin.Str.occurrences (Str.ofString " \t\n\r") (Txt.item x k) 0 (Str.ofString " \t\n\r").length 1).isEmpty = false) : P := by
  subst hk
  exact (tr_no hc h).elim
theorem tr_no2 {x : Str} {k : Int} {P : Prop} (hc : 33 ≤ code x ((x.length : Int) - 1)) (hk : k = (x.length : Int)) (h : (Builtin.Str.occurrences (Str.ofString " \t\n\r") (Txt.item x (k - 1)) 0 (Str.ofString " \t\n\r").length 1).isEmpty = false) : P := by
  subst hk
  exact (tr_no hc h).elim
set_option maxHeartbeats 4000000 in
theorem tr_ok (w : World) (s₀ : Shared) (mg mb : Str → Option Value) (news : List (Addr × Obj)) (x : Str) (t1 : Tok) (hx : x.length ≤ 4000) (hc : 33 ≤ code x 0) (hc2 : 33 ≤ code x ((x.length : Int) - 1)) :
    Claim w s₀ mg mb 101 [.str x t1] 1 news (RetS news x) := by
  unfold Claim RetS
  k_with_none
  k_with "m eval Constant int" => ((k_here; dsimp only; walk_at "eval Constant int"))
  k_with "m newTuple" => ((k_here; dsimp only; walk_at "newTuple"))
  k_with "m newList" => ((k_here; dsimp only; walk_at "newList"))
  k_fill
  w_top on
  intro dp un gd cn cs a ccd cl outer A₀ base h₀ L m s Q E B F X N T hk hd hu hret
  refine wpAny_call ?_
  k_dflt cell_enter
  k_with "exec While BoolOp cons nil" => k_while (fun _ k => k = 0) (fun _ k => 0) "begin"
  k_with "exec While BoolOp cons nil" => k_while (fun _ k => k = (x.length : Int)) (fun _ k => 0) "end"
  k_with "state" => first | rfl | exact tr_no1 hc (by assumption) (by assumption) | exact tr_no2 hc2 (by assumption) (by assumption)
  k_with "measure" => first | exact tr_no1 hc (by assumption) (by assumption) | exact tr_no2 hc2 (by assumption) (by assumption)
  k_steps
  all_goals first
    | (refine' endS hret ?e ?F ?N ?hn; (case F => assumption); (case N => assumption); (case hn => kcj_all); (case e => exact tr_all (by assumption) (by assumption)))
    | trace_state
end
section
open PySem.Calls PySem.NumText
theorem find_dig {c : Nat} (h : 48 ≤ c ∧ c ≤ 57) : Txt.find (Str.ofString "0123456789") ⟨#[c]⟩ = ((c - 48 : Nat) : Int) := by
  obtain ⟨k, hk, rfl⟩ : ∃ k, k < 10 ∧ c = 48 + k := ⟨c - 48, by omega, by omega⟩
  have all : ∀ k, k < 10 → Txt.find (Str.ofString "0123456789") ⟨#[48 + k]⟩ = ((48 + k - 48 : Nat) : Int) := by decide +kernel
  exact all k hk
theorem fold_val : ∀ (l : List Nat) (T : Nat), AllDigits l → List.foldl (fun (T : Int) a => T * 10 + Txt.find (Str.ofString "0123456789") a) (T : Int) (l.map fun n => (⟨#[n]⟩ : Str)) = ((l.foldl (fun acc c => acc * 10 + (c - 48)) T : Nat) : Int)
  | [], T, _ => rfl
  | c :: r, T, h => by
    rw [List.map_cons, List.foldl_cons, List.foldl_cons, find_dig h.head]
    have e : ((T : Int) * 10 + ((c - 48 : Nat) : Int)) = ((T * 10 + (c - 48) : Nat) : Int) := by omega
    rw [e]
    exact fold_val r _ h.tail
theorem wo_val {x : Str} (h : AllDigits (cl x)) : List.foldl (fun (T : Int) a => T * 10 + Txt.find (Str.ofString "0123456789") a) 0 (signs x) = ((digitsVal (cl x) : Nat) : Int) := fold_val _ 0 h
theorem wo_no {x a : Str} {P : Prop} (h : AllDigits (cl x)) (ha : a ∈ signs x) (hf : Txt.find (Str.ofString "0123456789") a = -1) : P := by
  unfold signs at ha
  obtain ⟨c, hc, rfl⟩ := List.mem_map.mp ha
  have hd := h c hc
  rw [find_dig hd] at hf
  omega
set_option maxHeartbeats 4000000 in
theorem wo_ok (w : World) (s₀ : Shared) (mg mb : Str → Option Value) (news : List (Addr × Obj)) (x : Str) (t1 : Tok) (hx : x.length ≤ 4000) (hD : AllDigits (cl x)) :
    Claim w s₀ mg mb 108 [.str x t1] 1 news (RetI news (digitsVal (cl x) : Nat)) := by
  unfold Claim RetI
  k_with_none
  k_with "m eval Constant int" => ((k_here; dsimp only; walk_at "eval Constant int"))
  k_with "m newTuple" => ((k_here; dsimp only; walk_at "newTuple"))
  k_with "m newList" => ((k_here; dsimp only; walk_at "newList"))
  k_fill
  w_top on
  intro dp un gd cn cs a ccd cl outer A₀ base h₀ L m s Q E B F X N T hk hd hu hret
  refine wpAny_call ?_
  k_dflt cell_enter
  k_steps
  all_goals first
    | exact wo_no hD (by assumption) (by assumption)
    | (refine' cb_retI hret ?e ?F ?N; (case F => assumption); (case N => assumption); (case e => exact wo_val hD))
    | trace_state
end
section
open PySem.Calls PySem.NumText
abbrev RetRN (news : List (Addr × Obj)) (big : Prop) (x y : Int) : Heap → Addr → (Str → Option Value) → Shared → (Value → Shared → Prop) → Prop :=
  fun h₀ L m s Q => ∀ (v : Value) (h' : Heap) (tk' : Nat), Fr h₀ L h' m →
    ((big ∧ v = .ref 16 ∧ News h₀ L h' news) ∨ (¬ big ∧ ∃ (D : Addr) (t1 t2 : Tok) (c : Nat), v = .ref D ∧ News h₀ L h' ((D, tup x t1 y t2 c) :: news) ∧ ∀ p ∈ news, p.1 < D)) → Q v { s with heap := h', toks := tk' }
def moreOf (l : List Nat) : Int := if 53 ≤ (l[400]?).getD 0 then 1 else 0
def topOf (lx ly : List Nat) : Int := ((digitsVal (lx ++ ly.take 400) : Nat) : Int) + moreOf ly
def botOf (ly : List Nat) : Int := 10 ^ (ly.take 400).length
theorem all_drop {l : List Nat} (h : AllDigits l) (n : Nat) : AllDigits (l.drop n) := fun c hc => h c (List.mem_of_mem_drop hc)
theorem all_take {l : List Nat} (h : AllDigits l) (n : Nat) : AllDigits (l.take n) := fun c hc => h c (List.mem_of_mem_take hc)
theorem all_app {l r : List Nat} (h : AllDigits l) (h2 : AllDigits r) : AllDigits (l ++ r) := fun c hc => (List.mem_append.mp hc).elim (h c) (h2 c)
theorem nd_all {x y : Str} {k : Int} (hx : AllDigits (cl x)) (hy : AllDigits (cl y)) (hk : 0 ≤ k) : AllDigits (cl (Txt.slice x (some k) none ++ Txt.slice y none (some 400))) := by
  rw [cl_append, sl_from hk, sl_to (by decide)]
  exact all_app (all_drop hx _) (all_take hy _)
theorem digitsVal_lt : ∀ (l : List Nat) (T : Nat), AllDigits l → l.foldl (fun acc c => acc * 10 + (c - 48)) T < (T + 1) * 10 ^ l.length
  | [], T, _ => by simp
  | c :: r, T, h => by
    have hc := h.head
    have ih := digitsVal_lt r (T * 10 + (c - 48)) h.tail
    rw [List.foldl_cons, List.length_cons, Nat.pow_succ]
    refine Nat.lt_of_lt_of_le ih ?_
    have : (T * 10 + (c - 48) + 1) ≤ (T + 1) * 10 := by omega
    calc (T * 10 + (c - 48) + 1) * 10 ^ r.length ≤ ((T + 1) * 10) * 10 ^ r.length := Nat.mul_le_mul_right _ this
      _ = (T + 1) * (10 ^ r.length * 10) := by rw [Nat.mul_assoc, Nat.mul_comm 10]
theorem pow10_le {n k : Nat} (h : n ≤ k) : 10 ^ n ≤ 2 ^ (4 * k) := by
  rw [Nat.pow_mul]
  exact Nat.le_trans (Nat.pow_le_pow_right (by decide) h) (Nat.pow_le_pow_left (by decide) k)
theorem bits_dv {l : List Nat} {k : Nat} (h : AllDigits l) (hl : l.length ≤ k) : bits ((digitsVal l : Nat) : Int) ≤ 4 * k := by
  refine bits_le ?_
  have h1 := digitsVal_lt l 0 h
  have h2 := pow10_le hl
  have e : (((digitsVal l : Nat) : Int)).natAbs = digitsVal l := Int.natAbs_natCast _
  rw [e]
  unfold digitsVal
  omega
theorem bits_p10 {n k : Nat} (hl : n ≤ k) : bits ((10 : Int) ^ n) ≤ 4 * k + 1 := by
  refine bits_le ?_
  have h2 := pow10_le hl
  rw [Int.natAbs_pow, Nat.pow_succ]
  show 10 ^ n < _
  have := Nat.two_pow_pos (4 * k)
  omega
theorem p10_pos {n : Nat} : (0 : Int) < 10 ^ n := Int.pow_pos (by decide)
theorem nd_len {x y : Str} {k : Int} (hk : 0 ≤ k) (hx : x.length ≤ 1000) : (cl (Txt.slice x (some k) none ++ Txt.slice y none (some 400))).length ≤ 1400 := by
  rw [cl_append, sl_from hk, sl_to (by decide), List.length_append, List.length_drop, List.length_take, cl_len]
  have : (400 : Int).toNat = 400 := rfl
  omega
theorem nd_b1 {x y : Str} {k : Int} (hx : AllDigits (cl x)) (hy : AllDigits (cl y)) (hk : 0 ≤ k) (hl : x.length ≤ 1000) {m : Int} (hm : m = 1 ∨ m = 0) : bits (((digitsVal (cl (Txt.slice x (some k) none ++ Txt.slice y none (some 400))) : Nat) : Int) + m) ≤ 6000 := by
  have h1 := bits_dv (k := 1400) (nd_all hx hy hk) (nd_len hk hl)
  refine Nat.le_trans (bits_add2 (Nat.le_trans h1 (by decide : 4 * 1400 ≤ 5600)) (k := 5) ?_) (by decide)
  rcases hm with rfl | rfl <;> decide
theorem nd_b2 {y : Str} : bits ((10 : Int) ^ (((Txt.slice y none (some 400)).length : Int)).toNat) ≤ 6000 := by
  have e : (((Txt.slice y none (some 400)).length : Int)).toNat = ((cl y).take 400).length := by
    rw [← cl_len, sl_to (by decide)]; rfl
  rw [e]
  exact Nat.le_trans (bits_p10 (k := 400) (by rw [List.length_take]; omega)) (by decide)
-- the noughts ahead
theorem zero_code {x : Str} {z : Nat} {r : List Nat} (h : cl x = List.replicate z 48 ++ 57 :: r) {k : Int} (h0 : 0 ≤ k) (h1 : k < z) : code x k = 48 := by
  rw [code_get h0, h, List.getElem?_append_left (by rw [List.length_replicate]; omega), List.getElem?_replicate, if_pos (by omega)]
  rfl
theorem nine_code {x : Str} {z : Nat} {r : List Nat} (h : cl x = List.replicate z 48 ++ 57 :: r) : code x z = 57 := by
  rw [code_get (by omega), h, List.getElem?_append_right (by rw [List.length_replicate]; omega), List.length_replicate]
  have : ((z : Int).toNat - z) = 0 := by omega
  rw [this]
  rfl
theorem len_of {x : Str} {z : Nat} {r : List Nat} (h : cl x = List.replicate z 48 ++ 57 :: r) : x.length = z + r.length + 1 := by
  rw [← cl_len, h, List.length_append, List.length_replicate, List.length_cons]; omega
theorem item0 {x : Str} {k : Int} : (Txt.item x k == Str.ofString "0") = decide (code x k = 48) := by
  have : Str.ofString "0" = (⟨#[48]⟩ : Str) := by decide +kernel
  rw [this, item_eq]
theorem nd_turn {x : Str} {z : Nat} {r : List Nat} (h : cl x = List.replicate z 48 ++ 57 :: r) {k : Int} (h2 : k ≤ z) (ht : (Txt.item x k == Str.ofString "0") = true) : k < z := by
  rcases Int.lt_or_eq_of_le h2 with h3 | h3
  · exact h3
  · subst h3
    rw [item0, nine_code h] at ht
    simp at ht
theorem nd_k {x : Str} {z : Nat} {r : List Nat} (h : cl x = List.replicate z 48 ++ 57 :: r) {k : Int} (h0 : 0 ≤ k) (h2 : k ≤ z) (ht : (Txt.item x k == Str.ofString "0") = false) : k = z := by
  rcases Int.lt_or_eq_of_le h2 with h3 | h3
  · rw [item0, zero_code h h0 h3] at ht
    simp at ht
  · exact h3
theorem dv_zero (z : Nat) (l : List Nat) : digitsVal (List.replicate z 48 ++ l) = digitsVal l := by
  induction z with
  | zero => simp
  | succ n ih =>
    rw [List.replicate_succ, List.cons_append, digitsVal_zero, ih]
theorem nd_top {x y : Str} {z : Nat} {r : List Nat} (h : cl x = List.replicate z 48 ++ 57 :: r) {k : Int} (hk : k = z) : digitsVal (cl (Txt.slice x (some k) none ++ Txt.slice y none (some 400))) = digitsVal (cl x ++ (cl y).take 400) := by
  subst hk
  rw [cl_append, sl_from (by omega), sl_to (by decide), h]
  have e : (List.replicate z 48 ++ 57 :: r).drop (z : Int).toNat = 57 :: r := by
    rw [show (z : Int).toNat = z by omega, List.drop_append_of_le_length (by rw [List.length_replicate]; omega)]
    simp
  rw [e, List.append_assoc, dv_zero]
  rfl
theorem nd_bot {y : Str} : (10 : Int) ^ (((Txt.slice y none (some 400)).length : Int)).toNat = botOf (cl y) := by
  have e : (((Txt.slice y none (some 400)).length : Int)).toNat = ((cl y).take 400).length := by
    rw [← cl_len, sl_to (by decide)]; rfl
  rw [e]; rfl
theorem sl_401 {y : Str} : (Txt.slice y (some 400) (some (400 + 1))).cps.toList = ((cl y).drop 400).take 1 := sl_ss (by decide) (by decide)
theorem five : (Str.ofString "5").cps.toList = [53] := by decide +kernel
theorem more_lt {y : Str} (h : (Txt.slice y (some 400) (some (400 + 1))).cps.toList < (Str.ofString "5").cps.toList) : moreOf (cl y) = 0 := by
  rw [sl_401, five] at h
  unfold moreOf
  generalize cl y = l at *
  rw [← List.head?_drop]
  cases hd : l.drop 400 with
  | nil => rfl
  | cons c t =>
    rw [hd] at h
    have : c < 53 := by
      have h' : [c] < [53] := h
      rcases List.cons_lt_cons_iff.mp h' with h1 | ⟨_, h1⟩
      · exact h1
      · cases h1
    show (if 53 ≤ c then (1 : Int) else 0) = 0
    rw [if_neg (by omega)]
theorem more_ge {y : Str} (h : ¬ (Txt.slice y (some 400) (some (400 + 1))).cps.toList < (Str.ofString "5").cps.toList) : moreOf (cl y) = 1 := by
  rw [sl_401, five] at h
  unfold moreOf
  generalize cl y = l at *
  rw [← List.head?_drop]
  cases hd : l.drop 400 with
  | nil =>
    rw [hd] at h
    exact absurd (show ([] : List Nat) < [53] from List.nil_lt_cons ..) h
  | cons c t =>
    rw [hd] at h
    have : 53 ≤ c := by
      rcases Nat.lt_or_ge c 53 with h1 | h1
      · exact absurd (show [c] < [53] from List.cons_lt_cons_iff.mpr (Or.inl h1)) h
      · exact h1
    show (if 53 ≤ c then (1 : Int) else 0) = 1
    rw [if_pos this]
end
section
open PySem.Calls PySem.NumText
theorem nd_e {x y : Str} {z : Nat} {r : List Nat} {k m : Int} (h : cl x = List.replicate z 48 ++ 57 :: r) (hk : k = z) (hm : moreOf (cl y) = m) :
   ((due (((digitsVal (cl (Txt.slice x (some k) none ++ Txt.slice y none (some 400))) : Nat) : Int) + m) ((10 : Int) ^ (((Txt.slice y none (some 400)).length : Int)).toNat)).1, (due (((digitsVal (cl (Txt.slice x (some k) none ++ Txt.slice y none (some 400))) : Nat) : Int) + m) ((10 : Int) ^ (((Txt.slice y none (some 400)).length : Int)).toNat)).2)
   = ((due (topOf (cl x) (cl y)) (botOf (cl y))).1, (due (topOf (cl x) (cl y)) (botOf (cl y))).2) := by
  rw [nd_top h hk, nd_bot, ← hm]
  rfl
theorem endRN1 {news : List (Addr × Obj)} {big : Prop} {x y : Int} {h₀ h' : Heap} {L : Addr} {m : Str → Option Value} {s : Shared} {Q : Value → Shared → Prop} {tk' : Nat} {news' : List (Addr × Obj)}
   (hret : RetRN news big x y h₀ L m s Q) (hb : big) (F : Fr h₀ L h' m) (N : News h₀ L h' news') (hn : ∀ p ∈ news, p ∈ news') : Q (.ref 16) { s with heap := h', toks := tk' } :=
  hret _ h' tk' F (.inl ⟨hb, rfl, fun p hp => N p (hn p hp)⟩)
theorem endRN2 {news : List (Addr × Obj)} {big : Prop} {x y x' y' : Int} {h₀ h' : Heap} {L D : Addr} {m : Str → Option Value} {s : Shared} {Q : Value → Shared → Prop} {t1 t2 : Tok} {c tk' : Nat} {news' : List (Addr × Obj)}
   (hret : RetRN news big x y h₀ L m s Q) (hb : ¬ big) (e : (x', y') = (x, y)) (F : Fr h₀ L h' m) (N : News h₀ L h' news') (hm : (D, tup x' t1 y' t2 c) ∈ news') (hn : ∀ p ∈ news, p ∈ news') (hl : ∀ p ∈ news, p.1 < D) : Q (.ref D) { s with heap := h', toks := tk' } := by
  cases e
  refine hret _ h' tk' F (.inr ⟨hb, D, t1, t2, c, rfl, fun p hp => (List.mem_cons.mp hp).elim (fun e => by subst e; exact N _ hm) (fun h => N p (hn p h)), hl⟩)
theorem big_yes {x : Str} {z : Nat} {r : List Nat} {k : Int} (h : cl x = List.replicate z 48 ++ 57 :: r) (hk : k = z) (hb : 400 < (x.length : Int) - k) : 400 < r.length + 1 := by
  have := len_of h
  omega
theorem big_no {x : Str} {z : Nat} {r : List Nat} {k : Int} (h : cl x = List.replicate z 48 ++ 57 :: r) (hk : k = z) (hb : ¬ 400 < (x.length : Int) - k) : ¬ 400 < r.length + 1 := by
  have := len_of h
  omega
theorem nd_out {x : Str} {z : Nat} {r : List Nat} {k : Int} {P : Prop} (h : cl x = List.replicate z 48 ++ 57 :: r) (h2 : k ≤ z) (hl : ¬ k < (x.length : Int)) : P := by
  have := len_of h
  omega
set_option maxHeartbeats 8000000 in
theorem nd_ok (w : World) (s₀ : Shared) (mg mb : Str → Option Value) (news : List (Addr × Obj)) (x y : Str) (t1 t2 : Tok) (z : Nat) (r : List Nat) (hX : cl x = List.replicate z 48 ++ 57 :: r) (hxl : x.length ≤ 1000) (hyl : y.length ≤ 1000) (hxd : AllDigits (cl x)) (hyd : AllDigits (cl y)) :
    Claim w s₀ mg mb 122 [.str x t1, .str y t2] 8 news (RetRN news (400 < r.length + 1) (due (topOf (cl x) (cl y)) (botOf (cl y))).1 (due (topOf (cl x) (cl y)) (botOf (cl y))).2) := by
  unfold Claim
  k_with_none
  k_with "m eval Constant int" => ((k_here; dsimp only; walk_at "eval Constant int"))
  k_with "m newTuple" => ((k_here; dsimp only; walk_at "newTuple"))
  k_with "m newList" => ((k_here; dsimp only; walk_at "newList"))
  k_with "m callWith ref nil nil" => ((k_here; (with_reducible show wpAny _ _ (callWith _ (Value.ref _) _ (backTo _ (starEach [] _)) []) _ _ _); (with_reducible rename Fr _ _ _ _ => kF9); k_dflt (refine' callWith_K0 (by exact Frag.In.keeps (by k_asm) (Fr.keep kF9)) (by k_is) ?_; k_whole)))
  k_with "m eval Name" => ((k_here; (with_reducible show wpAny _ _ (eval (Expr.Name (Str.ofString "MOST") _) _) _ _ _); k_dflt (refine' nameM (by k_asm) (by k_asm) (by k_asm) (by k_is) (by first | rfl | decide) ?_; k_whole)))
  k_with "m call ref" => ((k_here; (with_reducible show wpAny _ _ (call (Value.ref 108) _) _ _ _); k_dflt (refine' use2 (by k_asm) (by k_asm) (by k_asm) (by k_asm) (by k_asm) (by first | exact rfl | assumption) (wo_ok _ _ _ _ _ _ _ (by first | assumption | omega) (by exact nd_all (by assumption) (by assumption) (by assumption))) (by first | exact un3 (by assumption) (by exact rfl) | ktr_room) (by first | exact un3 (by assumption) (by exact rfl) | ktr_units) ?_; (dsimp only [RetI]; intro t' h' tk' F' N'; (try dsimp only); (try k_fold)))))
  k_with "m call ref" => ((k_here; (with_reducible show wpAny _ _ (call (Value.ref 38) _) _ _ _); k_dflt (refine' use2 (by k_asm) (by k_asm) (by k_asm) (by k_asm) (by k_asm) (by first | exact rfl | assumption) (num_ok _ _ _ _ _ _ _ _ _ (by exact p10_pos) (by exact nd_b1 (by assumption) (by assumption) (by assumption) (by assumption) (by first | exact Or.inl rfl | exact Or.inr rfl)) (by exact nd_b2)) (by first | exact un3 (by assumption) (by exact rfl) | ktr_room) (by first | exact un3 (by assumption) (by exact rfl) | ktr_units) ?_; (dsimp only [RetT]; intro D' t1' t2' c' h' tk' F' N' l1'; (try k_lt l1'); (try dsimp only); (try k_fold)))))
  k_fill
  w_top on
  intro dp un gd cn cs a ccd cl outer A₀ base h₀ L m s Q E B F X N T hk hd hu hret
  refine wpAny_call ?_
  k_dflt cell_enter
  k_with "exec While BoolOp cons nil" => k_while (fun _ k => 0 ≤ k ∧ k ≤ (z : Int)) (fun _ k => ((z : Int) - k).toNat) "begin"
  k_with "state" => first | exact ⟨Int.le_refl _, Int.natCast_nonneg z⟩ | (have q9 := nd_turn hX (by assumption) (by assumption); omega)
  k_with "measure" => (have q9 := nd_turn hX (by assumption) (by assumption); omega)
  k_steps
  all_goals first
    | exact nd_out hX (by assumption) (by assumption)
    | (refine' endRN1 hret ?hb ?F ?N ?hn; (case F => assumption); (case N => assumption); (case hn => kcj_all); (case hb => exact big_yes hX (nd_k hX (by assumption) (by assumption) (by assumption)) (by assumption)))
    | (refine' endRN2 hret ?hb ?e ?F ?N ?hm ?hn ?hl; (case F => assumption); (case N => assumption); (case hm => k_mem); (case hn => kcj_all); (case hl => first | assumption | (rename _ ∧ AllLt _ _ => hl9; exact ktn_ltOf hl9.2) | exact ktn_ltOf (by assumption)); (case e => exact nd_e hX (nd_k hX (by assumption) (by assumption) (by assumption)) (by first | exact more_lt (by assumption) | exact more_ge (by assumption))); (case hb => exact big_no hX (nd_k hX (by assumption) (by assumption) (by assumption)) (by assumption)))
    | trace_state
end
section
open PySem.Calls PySem.NumText
theorem ntf {b : Bool} (h : b = false) : ¬ b = true := by rw [h]; decide
set_option maxHeartbeats 8000000 in
theorem rnp_ok (w : World) (s₀ : Shared) (mg mb : Str → Option Value) (news : List (Addr × Obj)) (X : Str) (t1 : Tok) (e : Int) (z : Nat) (r : List Nat)
   (hx : X.length ≤ 4000) (hc : 33 ≤ code X 0) (hc2 : 33 ≤ code X ((X.length : Int) - 1)) (hm : (Txt.slice X none (some 1) == Str.ofString "-") = false)
   (he : 0 < e) (hel : e < (X.length : Int)) (hd1 : ∀ i, 0 ≤ i → i < e → 48 ≤ code X i ∧ code X i ≤ 57) (hz1 : ¬ (48 ≤ code X e ∧ code X e ≤ 57))
   (hdot : (Txt.slice X (some e) (some (e + 1)) == Str.ofString ".") = true) (hd2 : ∀ i, e + 1 ≤ i → i < (X.length : Int) → 48 ≤ code X i ∧ code X i ≤ 57)
   (hne : (Txt.slice X (some 0) (some e) ++ Txt.slice X (some (e + 1)) (some (X.length : Int)) == Str.ofString "") = false)
   (hxl : (Txt.slice X (some 0) (some e)).length ≤ 1000) (hyl : (Txt.slice X (some (e + 1)) (some (X.length : Int))).length ≤ 1000)
   (hxd : AllDigits (cl (Txt.slice X (some 0) (some e)))) (hyd : AllDigits (cl (Txt.slice X (some (e + 1)) (some (X.length : Int)))))
   (hX : cl (Txt.slice X (some 0) (some e)) = List.replicate z 48 ++ 57 :: r) (hbig : 400 < r.length + 1 → (due (topOf (cl (Txt.slice X (some 0) (some e))) (cl (Txt.slice X (some (e + 1)) (some (X.length : Int))))) (botOf (cl (Txt.slice X (some (e + 1)) (some (X.length : Int)))))) = (1, 0)) :
    Claim w s₀ mg mb 115 [.str X t1] 12 news (RetRN news (400 < r.length + 1) (due (topOf (cl (Txt.slice X (some 0) (some e))) (cl (Txt.slice X (some (e + 1)) (some (X.length : Int))))) (botOf (cl (Txt.slice X (some (e + 1)) (some (X.length : Int)))))).1 (due (topOf (cl (Txt.slice X (some 0) (some e))) (cl (Txt.slice X (some (e + 1)) (some (X.length : Int))))) (botOf (cl (Txt.slice X (some (e + 1)) (some (X.length : Int)))))).2) := by
  unfold Claim
  k_with_none
  k_with "m eval Constant int" => ((k_here; dsimp only; walk_at "eval Constant int"))
  k_with "m newTuple" => ((k_here; dsimp only; walk_at "newTuple"))
  k_with "m newList" => ((k_here; dsimp only; walk_at "newList"))
  k_with "m callWith ref nil nil" => ((k_here; (with_reducible show wpAny _ _ (callWith _ (Value.ref _) _ (backTo _ (starEach [] _)) []) _ _ _); (with_reducible rename Fr _ _ _ _ => kF9); k_dflt (refine' callWith_K0 (by exact Frag.In.keeps (by k_asm) (Fr.keep kF9)) (by k_is) ?_; k_whole)))
  k_with "m call ref" => ((k_here; k_dflt (refine wpAny_call ?_; (refine' code_def (by k_asm) (by k_asm) (by k_asm) (by k_asm) (by k_asm) (by exact rfl) (by exact rfl) (by first | exact rfl | assumption) (by k_is) (by k_is) (by first | exact un3 (by assumption) (by exact rfl) | ktr_room) (by exact BindsTo.of_eq rfl) (by exact locs rfl) ?_ (by exact rfl) (by exact rfl) (by exact rfl) (by decide); k_whole; intro g' L' h' FG' F' N' B' X' T'; (try dsimp only); (try k_lift B'); (try k_fold)))))
  k_with "m ite" => (first | refine ite_pos (by first | assumption | exact beq_iff_eq.mpr (by assumption) | exact decide_eq_true (by first | assumption | omega)) ?_ | refine ite_neg (by first | assumption | exact ntf (by assumption) | exact (fun h => absurd (beq_iff_eq.mp h) (by first | assumption | omega)) | exact (fun h => absurd (of_decide_eq_true h) (by first | assumption | omega))) ?_)
  k_with "m call ref" => ((k_here; (with_reducible show wpAny _ _ (call (Value.ref 101) _) _ _ _); k_dflt (refine' use2 (by k_asm) (by k_asm) (by k_asm) (by k_asm) (by k_asm) (by first | exact rfl | assumption) (tr_ok _ _ _ _ _ _ _ (by assumption) (by assumption) (by assumption)) (by first | exact un3 (by assumption) (by exact rfl) | ktr_room) (by first | exact un3 (by assumption) (by exact rfl) | ktr_units) ?_; (dsimp only [RetS]; intro t' h' tk' F' N'; (try dsimp only); (try k_fold)))))
  k_with "m call ref" => ((k_here; (with_reducible show wpAny _ _ (call (Value.ref 94) _) _ _ _); k_dflt (refine' use2 (by k_asm) (by k_asm) (by k_asm) (by k_asm) (by k_asm) (by first | exact rfl | assumption) (de_ok _ _ _ _ _ _ _ _ _ _ (by assumption) (by assumption) (by omega) (by omega) (by omega) (by first | exact Or.inl rfl | exact Or.inr (by assumption))) (by first | exact un3 (by assumption) (by exact rfl) | ktr_room) (by first | exact un3 (by assumption) (by exact rfl) | ktr_units) ?_; (dsimp only [RetI]; intro t' h' tk' F' N'; (try dsimp only); (try k_fold)))))
  k_with "m call ref" => ((k_here; (with_reducible show wpAny _ _ (call (Value.ref 122) _) _ _ _); k_dflt (refine' use2 (by k_asm) (by k_asm) (by k_asm) (by k_asm) (by k_asm) (by first | exact rfl | assumption) (nd_ok _ _ _ _ _ _ _ _ _ _ _ (by assumption) (by assumption) (by assumption) (by assumption) (by assumption)) (by first | exact un3 (by assumption) (by exact rfl) | ktr_room) (by first | exact un3 (by assumption) (by exact rfl) | ktr_units) ?_; (dsimp only [RetRN]; intro v' h' tk' F' hc9; (rcases hc9 with ⟨hb9, hv9, N'⟩ | ⟨hb9, D', t1', t2', c', hv9, N', l1'⟩) <;> subst hv9 <;> (try k_lt l1'); (try dsimp only); (try k_fold)))))
  k_fill
  w_top on
  intro dp un gd cn cs a ccd cl outer A₀ base h₀ L m s Q E B F X N T hk hdp hu hret
  refine wpAny_call ?_
  k_dflt cell_enter
  k_steps
  all_goals first
    | (refine' endRN1 hret ?hb ?F ?N ?hn; (case F => assumption); (case N => assumption); (case hn => kcj_all); (case hb => assumption))
    | (refine' endRN2 hret ?hb ?e ?F ?N ?hm ?hn ?hl; (case F => assumption); (case N => assumption); (case hm => k_mem); (case hn => kcj_all); (case hl => first | assumption | exact ktn_ltOf (by assumption) | (rename _ ∧ AllLt _ _ => hl9; exact ktn_ltOf hl9.2) | (rename _ ∧ _ ∧ AllLt _ _ => hl9; exact ktn_ltOf hl9.2.2)); (case e => rfl); (case hb => assumption))
    | trace_state
set_option maxHeartbeats 8000000 in
theorem rnm_ok (w : World) (s₀ : Shared) (mg mb : Str → Option Value) (news : List (Addr × Obj)) (X : Str) (t1 : Tok) (e : Int) (z : Nat) (r : List Nat)
   (hx : X.length ≤ 4000) (hc : 33 ≤ code X 0) (hc2 : 33 ≤ code X ((X.length : Int) - 1)) (hm : (Txt.slice X none (some 1) == Str.ofString "-") = true)
   (he : 1 < e) (hel : e < (X.length : Int)) (hd1 : ∀ i, 1 ≤ i → i < e → 48 ≤ code X i ∧ code X i ≤ 57) (hz1 : ¬ (48 ≤ code X e ∧ code X e ≤ 57))
   (hdot : (Txt.slice X (some e) (some (e + 1)) == Str.ofString ".") = true) (hd2 : ∀ i, e + 1 ≤ i → i < (X.length : Int) → 48 ≤ code X i ∧ code X i ≤ 57)
   (hne : (Txt.slice X (some 1) (some e) ++ Txt.slice X (some (e + 1)) (some (X.length : Int)) == Str.ofString "") = false)
   (hxl : (Txt.slice X (some 1) (some e)).length ≤ 1000) (hyl : (Txt.slice X (some (e + 1)) (some (X.length : Int))).length ≤ 1000)
   (hxd : AllDigits (cl (Txt.slice X (some 1) (some e)))) (hyd : AllDigits (cl (Txt.slice X (some (e + 1)) (some (X.length : Int)))))
   (hX : cl (Txt.slice X (some 1) (some e)) = List.replicate z 48 ++ 57 :: r) (hbig : 400 < r.length + 1 → (due (topOf (cl (Txt.slice X (some 1) (some e))) (cl (Txt.slice X (some (e + 1)) (some (X.length : Int))))) (botOf (cl (Txt.slice X (some (e + 1)) (some (X.length : Int)))))) = (1, 0)) :
    Claim w s₀ mg mb 115 [.str X t1] 12 news (RetT news (-(due (topOf (cl (Txt.slice X (some 1) (some e))) (cl (Txt.slice X (some (e + 1)) (some (X.length : Int))))) (botOf (cl (Txt.slice X (some (e + 1)) (some (X.length : Int)))))).1) (due (topOf (cl (Txt.slice X (some 1) (some e))) (cl (Txt.slice X (some (e + 1)) (some (X.length : Int))))) (botOf (cl (Txt.slice X (some (e + 1)) (some (X.length : Int)))))).2) := by
  unfold Claim
  k_with_none
  k_with "m eval Constant int" => ((k_here; dsimp only; walk_at "eval Constant int"))
  k_with "m newTuple" => ((k_here; dsimp only; walk_at "newTuple"))
  k_with "m newList" => ((k_here; dsimp only; walk_at "newList"))
  k_with "m callWith ref nil nil" => ((k_here; (with_reducible show wpAny _ _ (callWith _ (Value.ref _) _ (backTo _ (starEach [] _)) []) _ _ _); (with_reducible rename Fr _ _ _ _ => kF9); k_dflt (refine' callWith_K0 (by exact Frag.In.keeps (by k_asm) (Fr.keep kF9)) (by k_is) ?_; k_whole)))
  k_with "m call ref" => ((k_here; k_dflt (refine wpAny_call ?_; (refine' code_def (by k_asm) (by k_asm) (by k_asm) (by k_asm) (by k_asm) (by exact rfl) (by exact rfl) (by first | exact rfl | assumption) (by k_is) (by k_is) (by first | exact un3 (by assumption) (by exact rfl) | ktr_room) (by exact BindsTo.of_eq rfl) (by exact locs rfl) ?_ (by exact rfl) (by exact rfl) (by exact rfl) (by decide); k_whole; intro g' L' h' FG' F' N' B' X' T'; (try dsimp only); (try k_lift B'); (try k_fold)))))
  k_with "m ite" => (first | refine ite_pos (by first | assumption | exact beq_iff_eq.mpr (by assumption) | exact decide_eq_true (by first | assumption | omega)) ?_ | refine ite_neg (by first | assumption | exact ntf (by assumption) | exact (fun h => absurd (beq_iff_eq.mp h) (by first | assumption | omega)) | exact (fun h => absurd (of_decide_eq_true h) (by first | assumption | omega))) ?_)
  k_with "m call ref" => ((k_here; (with_reducible show wpAny _ _ (call (Value.ref 101) _) _ _ _); k_dflt (refine' use2 (by k_asm) (by k_asm) (by k_asm) (by k_asm) (by k_asm) (by first | exact rfl | assumption) (tr_ok _ _ _ _ _ _ _ (by assumption) (by assumption) (by assumption)) (by first | exact un3 (by assumption) (by exact rfl) | ktr_room) (by first | exact un3 (by assumption) (by exact rfl) | ktr_units) ?_; (dsimp only [RetS]; intro t' h' tk' F' N'; (try dsimp only); (try k_fold)))))
  k_with "m call ref" => ((k_here; (with_reducible show wpAny _ _ (call (Value.ref 94) _) _ _ _); k_dflt (refine' use2 (by k_asm) (by k_asm) (by k_asm) (by k_asm) (by k_asm) (by first | exact rfl | assumption) (de_ok _ _ _ _ _ _ _ _ _ _ (by assumption) (by assumption) (by omega) (by omega) (by omega) (by first | exact Or.inl rfl | exact Or.inr (by assumption))) (by first | exact un3 (by assumption) (by exact rfl) | ktr_room) (by first | exact un3 (by assumption) (by exact rfl) | ktr_units) ?_; (dsimp only [RetI]; intro t' h' tk' F' N'; (try dsimp only); (try k_fold)))))
  k_with "m call ref" => ((k_here; (with_reducible show wpAny _ _ (call (Value.ref 122) _) _ _ _); k_dflt (refine' use2 (by k_asm) (by k_asm) (by k_asm) (by k_asm) (by k_asm) (by first | exact rfl | assumption) (nd_ok _ _ _ _ _ _ _ _ _ _ _ (by assumption) (by assumption) (by assumption) (by assumption) (by assumption)) (by first | exact un3 (by assumption) (by exact rfl) | ktr_room) (by first | exact un3 (by assumption) (by exact rfl) | ktr_units) ?_; (dsimp only [RetRN]; intro v' h' tk' F' hc9; (rcases hc9 with ⟨hb9, hv9, N'⟩ | ⟨hb9, D', t1', t2', c', hv9, N', l1'⟩) <;> subst hv9 <;> (try k_lt l1'); (try dsimp only); (try k_fold)))))
  k_fill
  w_top on
  intro dp un gd cn cs a ccd cl outer A₀ base h₀ L m s Q E B F X N T hk hdp hu hret
  refine wpAny_call ?_
  k_dflt cell_enter
  k_steps
  all_goals first
    | (refine' endT hret ?e ?F ?N ?hm ?hn ?hl; (case F => assumption); (case N => assumption); (case hm => k_mem); (case hn => kcj_all); (case hl => first | assumption | exact ktn_ltOf (by assumption) | (rename _ ∧ AllLt _ _ => hl9; exact ktn_ltOf hl9.2) | (rename _ ∧ _ ∧ AllLt _ _ => hl9; exact ktn_ltOf hl9.2.2) | (rename _ ∧ _ ∧ _ ∧ AllLt _ _ => hl9; exact ktn_ltOf hl9.2.2.2)); (case e => first | rfl | exact congrArg (fun p : Int × Int => (-p.1, p.2)) (hbig (by assumption)).symm))
    | trace_state
end
section
open PySem.Calls PySem.NumText PySem.W.KIN
theorem wp_digits {MM : Model} {A : Around} {E : Value → Shared → Prop} {s : Shared} {Q : Nat → Shared → Prop} (hn : s.heap.NoDigits) (h : Q 4300 s) : wpAny MM A Builtin.intMaxStrDigits Q E s := by
  obtain ⟨mc, hns, hnone⟩ := hn
  unfold Builtin.intMaxStrDigits
  refine wpAny_bind (wpAny_nsGet hns ?_)
  rw [hnone]
  exact wpAny_pure h
theorem wp_text2 {MM : Model} {A : Around} {E : Value → Shared → Prop} {s : Shared} {Q : Value → Shared → Prop} {v : Value} {text : List Nat} {n : Int}
    (hs : ¬ (text.takeWhile (· != 0)).length ≤ 640) (hr : (int_private% "readNumeral") 4300 10 (text.takeWhile (· != 0)) = (int_private% "Numeral.value") n)
    (ha : ((text.takeWhile (· != 0)).length == text.length) = true) (hn : s.heap.NoDigits) (h : Q (.int n s.toks) { s with toks := s.toks + 1 }) :
    wpAny MM A ((int_private% "intFromText") v text 10) Q E s := by
  obtain ⟨hp, g, d, tk, os⟩ := s
  repeat (any_goals (first
    | assumption
    | (with_reducible refine wpAny_ite_false (decide_eq_false hs) ?_)
    | (with_reducible refine wpAny_ite_true (decide_eq_true ha) ?_)
    | ((with_reducible show wpAny _ _ Builtin.intMaxStrDigits _ _ _); refine wp_digits hn ?_)
    | wp_step))
  all_goals (try rw [hr])
  all_goals (try dsimp only)
  repeat (any_goals (first
    | assumption
    | (with_reducible refine wpAny_ite_false (decide_eq_false hs) ?_)
    | (with_reducible refine wpAny_ite_true (decide_eq_true ha) ?_)
    | ((with_reducible show wpAny _ _ Builtin.intMaxStrDigits _ _ _); refine wp_digits hn ?_)
    | wp_step))
set_option maxHeartbeats 4000000 in
theorem wp_new2 {x : PySem.Str} {u : Tok} {n : Int} (hl : ¬ (numSeenOf x).length ≤ 640) (hx : x.length ≤ sizeLine) (hn : PySem.intText? x = some n)
    (MM : Model) (A : Around) (E : Value → Shared → Prop) (s : Shared) (Q : Value → Shared → Prop) (hd : s.heap.NoDigits) (h : Q (.int n s.toks) { s with toks := s.toks + 1 }) :
    wpAny MM A (Builtin.«int.__new__» ⟨[.type "int", .str x u], []⟩) (fun fin s' => ∃ v, fin = .done (.ret v) ∧ Q v s') E s := by
    obtain ⟨hp, g, d, tk, os⟩ := s
    have f1 := F.conv_sub_int
    have f2 := F.madeHere_int
    have f3 := str_int
    have f4 := str_idx
    have f5 := str_trunc
    have f6 : typeOf (.str x u) = pure (.type "str") := rfl
    have hr : (int_private% "readNumeral") 4300 10 (numSeenOf x) = (int_private% "Numeral.value") n ∧ ((numSeenOf x).length == (numTextOf x).length) = true := by
      rcases read4300 x hx with ⟨m, h1, h2, h3⟩ | ⟨h1, _⟩
      · rw [hn] at h1
        injection h1 with h1
        subst h1
        exact ⟨h3, h2⟩
      · rw [hn] at h1
        cases h1
    have hk := Hid.mk (And.intro hl (And.intro hr hd))
    clear hl hr hx hn hd
    repeat (any_goals (first
      | assumption
      | ((with_reducible show wpAny _ _ ((int_private% "intFromText") _ _ _) _ _ _); refine wp_text2 hk.out.1 hk.out.2.1.1 hk.out.2.1.2 hk.out.2.2 ?_)
      | wp_step))
    all_goals first | exact ⟨_, rfl, h⟩ | skip
theorem call_text2 {prog : Program} {w : World} {A : Around} {E : Value → Shared → Prop} {s : Shared} {Q : Value → Shared → Prop} {x : PySem.Str} {t : Tok} {n : Int}
   (hn : PySem.intText? x = some n) (hl : ¬ (numSeenOf x).length ≤ 640) (hx : x.length ≤ sizeLine) (hd : s.heap.NoDigits) (h : Q (.int n s.toks) { s with toks := s.toks + 1 }) :
   wpAny (model prog w) A (call (.type "int") [.str x t]) Q E s := by
  refine call_int_1 (S := fun _ R s => s.heap.NoDigits ∧ R (.ok (.ret (.int n s.toks))) { s with toks := s.toks + 1 }) ?_ ?_
  · intro prog w A R s h
    refine wpAny_mono (wp_new2 hl hx hn (model prog w) A.in1 _ s (fun v s' => R (.ok (.ret v)) s') h.1 h.2) (fun fin s' h' => ?_) fun _ _ y => y
    obtain ⟨v, rfl, hv⟩ := h'
    exact hv
  · exact ⟨hd, typeIs_int _ _ _, h⟩
end
section
open PySem.Calls PySem.NumText
theorem code_mem {X : Str} {i : Int} (h0 : 0 ≤ i) (h1 : i < (X.length : Int)) : code X i ∈ cl X := by
  have hl := cl_len X
  have hlt : i.toNat < (cl X).length := by omega
  rw [code_get h0, List.getElem?_eq_getElem hlt]
  exact List.getElem_mem hlt
section
variable {X A B : Str} {pre : List Nat} (hX : cl X = pre ++ (cl A ++ 46 :: cl B))
include hX
theorem x_len : X.length = pre.length + A.length + 1 + B.length := by
  have h := congrArg List.length hX
  simp only [List.length_append, List.length_cons] at h
  have h1 : (cl X).length = X.length := cl_len X
  have h2 : (cl A).length = A.length := cl_len A
  have h3 : (cl B).length = B.length := cl_len B
  omega
theorem x_W : cl (Txt.slice X (some (pre.length : Int)) (some ((pre.length : Int) + A.length))) = cl A := by
  have h2 : (cl A).length = A.length := cl_len A
  rw [sl_ss (by omega) (by omega), hX]
  have e1 : ((pre.length : Int)).toNat = pre.length := by omega
  have e2 : ((pre.length : Int) + A.length - pre.length).toNat = (cl A).length := by omega
  rw [e1, e2, List.drop_left, List.take_left]
theorem x_P : cl (Txt.slice X (some ((pre.length : Int) + A.length + 1)) (some (X.length : Int))) = cl B := by
  have h1 := x_len hX
  have h2 : (cl A).length = A.length := cl_len A
  have h3 : (cl B).length = B.length := cl_len B
  rw [sl_ss (by omega) (by omega), hX]
  have e1 : ((pre.length : Int) + A.length + 1).toNat = (pre ++ (cl A ++ [46])).length := by simp only [List.length_append, List.length_cons, List.length_nil]; omega
  have e2 : ((X.length : Int) - ((pre.length : Int) + A.length + 1)).toNat = (cl B).length := by omega
  have e3 : pre ++ (cl A ++ 46 :: cl B) = (pre ++ (cl A ++ [46])) ++ cl B := by simp
  rw [e1, e2, e3, List.drop_left, List.take_length]
theorem x_get1 {i : Int} (h0 : (pre.length : Int) ≤ i) (h1 : i < (pre.length : Int) + A.length) : code X i ∈ cl A := by
  have h2 : (cl A).length = A.length := cl_len A
  rw [code_get (by omega), hX, List.getElem?_append_right (by omega), List.getElem?_append_left (by omega), List.getElem?_eq_getElem (by omega)]
  exact List.getElem_mem _
theorem x_get2 : code X ((pre.length : Int) + A.length) = 46 := by
  have h2 : (cl A).length = A.length := cl_len A
  rw [code_get (by omega), hX, List.getElem?_append_right (by omega), List.getElem?_append_right (by omega)]
  have : ((pre.length : Int) + A.length).toNat - pre.length - (cl A).length = 0 := by omega
  rw [this]
  rfl
theorem x_get3 {i : Int} (h0 : (pre.length : Int) + A.length + 1 ≤ i) (h1 : i < (X.length : Int)) : code X i ∈ cl B := by
  have hl := x_len hX
  have h2 : (cl A).length = A.length := cl_len A
  have h3 : (cl B).length = B.length := cl_len B
  rw [code_get (by omega), hX, List.getElem?_append_right (by omega), List.getElem?_append_right (by omega)]
  have : i.toNat - pre.length - (cl A).length = (i.toNat - pre.length - (cl A).length - 1) + 1 := by omega
  rw [this, List.getElem?_cons_succ, List.getElem?_eq_getElem (by omega)]
  exact List.getElem_mem _
theorem x_dot : (Txt.slice X (some ((pre.length : Int) + A.length)) (some ((pre.length : Int) + A.length + 1)) == Str.ofString ".") = true := by
  refine beq_iff_eq.mpr (cl_ext ?_)
  have h2 : (cl A).length = A.length := cl_len A
  rw [sl_ss (by omega) (by omega), hX]
  have e1 : ((pre.length : Int) + A.length).toNat = (pre ++ cl A).length := by simp only [List.length_append]; omega
  have e2 : ((pre.length : Int) + A.length + 1 - ((pre.length : Int) + A.length)).toNat = 1 := by omega
  have e3 : pre ++ (cl A ++ 46 :: cl B) = (pre ++ cl A) ++ 46 :: cl B := by simp
  rw [e1, e2, e3, List.drop_left]
  show [46] = _
  decide +kernel
theorem x_ge (hp : ∀ c ∈ pre, 45 ≤ c) (hA : AllDigits (cl A)) (hB : AllDigits (cl B)) {i : Int} (h0 : 0 ≤ i) (h1 : i < (X.length : Int)) : 33 ≤ code X i := by
  have h := code_mem h0 h1
  generalize code X i = c at h
  rw [hX] at h
  rcases List.mem_append.mp h with h | h
  · have := hp _ h
    omega
  · rcases List.mem_append.mp h with h | h
    · have := hA _ h
      omega
    · rcases List.mem_cons.mp h with h | h
      · omega
      · have := hB _ h
        omega
theorem x_ne (hA : A.length > 0) {P : Str} : (Txt.slice X (some (pre.length : Int)) (some ((pre.length : Int) + A.length)) ++ P == Str.ofString "") = false := by
  refine beq_eq_false_iff_ne.mpr fun q => ?_
  have h := congrArg cl q
  rw [cl_append, x_W hX] at h
  have h2 : (cl A).length = A.length := cl_len A
  have h3 := congrArg List.length h
  rw [List.length_append] at h3
  have h4 : (cl (Str.ofString "")).length = 0 := by decide +kernel
  omega
theorem x_first : (Txt.slice X none (some 1) == Str.ofString "-") = decide ((cl X).take 1 = [45]) := by
  have e : cl (Str.ofString "-") = [45] := by decide +kernel
  have e1 : cl (Txt.slice X none (some 1)) = (cl X).take 1 := sl_to (by decide)
  by_cases h : (cl X).take 1 = [45]
  · rw [decide_eq_true h]
    exact beq_iff_eq.mpr (cl_ext (by rw [e1, e, h]))
  · rw [decide_eq_false h]
    exact beq_eq_false_iff_ne.mpr fun q => h (by rw [← e1, q, e])
end
theorem cl_mul0 (d : Int) : cl (Txt.mul (Str.ofString "0") d) = List.replicate d.toNat 48 := by
  have : Str.ofString "0" = (⟨#[48]⟩ : Str) := by decide +kernel
  rw [this]
  exact mul_one_list 48 d
theorem cl_mul9 (d : Int) : cl (Txt.mul (Str.ofString "9") d) = List.replicate d.toNat 57 := by
  have : Str.ofString "9" = (⟨#[57]⟩ : Str) := by decide +kernel
  rw [this]
  exact mul_one_list 57 d
theorem dv_ge : ∀ (l : List Nat) (T : Nat), T * 10 ^ l.length ≤ l.foldl (fun acc c => acc * 10 + (c - 48)) T
  | [], T => by simp
  | c :: r, T => by
    have ih := dv_ge r (T * 10 + (c - 48))
    rw [List.foldl_cons, List.length_cons, Nat.pow_succ]
    refine Nat.le_trans ?_ ih
    have : T * (10 ^ r.length * 10) = (T * 10) * 10 ^ r.length := by rw [Nat.mul_assoc, Nat.mul_comm 10]
    rw [this]
    exact Nat.mul_le_mul_right _ (by omega)
theorem more_01 (l : List Nat) : moreOf l = 0 ∨ moreOf l = 1 := by
  unfold moreOf
  split
  · exact Or.inr rfl
  · exact Or.inl rfl
theorem due_big {lx ly : List Nat} {z : Nat} {r : List Nat} (h : lx = List.replicate z 48 ++ 57 :: r) (hb : 400 < r.length + 1) : due (topOf lx ly) (botOf ly) = (1, 0) := by
  have hm := more_01 ly
  have e1 : digitsVal (lx ++ ly.take 400) = digitsVal (57 :: (r ++ ly.take 400)) := by
    rw [h, List.append_assoc, dv_zero]; rfl
  have e2 : 9 * 10 ^ (r ++ ly.take 400).length ≤ digitsVal (57 :: (r ++ ly.take 400)) := dv_ge (r ++ ly.take 400) 9
  have e3 : 10 ^ (400 + (ly.take 400).length) ≤ 10 ^ (r ++ ly.take 400).length := Nat.pow_le_pow_right (by decide) (by rw [List.length_append]; omega)
  have e4 : M * botOf ly = ((10 ^ (400 + (ly.take 400).length) : Nat) : Int) := by
    rw [← M_pow, Nat.pow_add, Int.natCast_mul, Int.natCast_pow, Int.natCast_pow]
    rfl
  have e5 : 0 < 10 ^ (400 + (ly.take 400).length) := Nat.pow_pos (by decide)
  have e6 : M * botOf ly ≤ topOf lx ly := by
    rw [e4]
    unfold topOf
    rw [e1]
    omega
  have e7 : 0 < topOf lx ly := by
    rw [e4] at e6
    omega
  rw [← due_a (x := topOf lx ly) (y := botOf ly) (by rw [if_neg (by omega)]; exact e6), Int.sign_eq_one_of_pos e7]
theorem rnP_ok (w : World) (s₀ : Shared) (mg mb : Str → Option Value) (news : List (Addr × Obj)) (X A B : Str) (t1 : Tok) (z : Nat) (r : List Nat)
   (hX : cl X = [] ++ (cl A ++ 46 :: cl B)) (hA : cl A = List.replicate z 48 ++ 57 :: r) (hAd : AllDigits (cl A)) (hBd : AllDigits (cl B)) (hAl : A.length ≤ 900) (hBl : B.length ≤ 900) :
    Claim w s₀ mg mb 115 [.str X t1] 12 news (RetRN news (400 < r.length + 1) (due (topOf (cl A) (cl B)) (botOf (cl B))).1 (due (topOf (cl A) (cl B)) (botOf (cl B))).2) := by
  have hl := x_len hX
  have hlA := len_of hA
  have hW := x_W hX
  have hP := x_P hX
  have hdot := x_dot hX
  have hge := fun i h0 h1 => x_ge hX (by simp) hAd hBd (i := i) h0 h1
  have h1 := fun i h0 h1 => hAd _ (x_get1 hX (i := i) h0 h1)
  have h2 := x_get2 hX
  have h3 := fun i h0 h1 => hBd _ (x_get3 hX (i := i) h0 h1)
  have hn := x_ne hX (by omega) (P := Txt.slice X (some ((A.length : Int) + 1)) (some (X.length : Int)))
  simp only [List.length_nil, Int.natCast_zero, Int.zero_add, Nat.zero_add] at hl hW hP hdot hge h1 h2 h3 hn
  have hm : (Txt.slice X none (some 1) == Str.ofString "-") = false := by
    rw [x_first hX, hX, hA]
    refine decide_eq_false ?_
    cases z with
    | zero => simp
    | succ n => simp [List.replicate_succ]
  have key := rnp_ok w s₀ mg mb news X t1 (A.length : Int) z r (by omega) (hge 0 (by omega) (by omega)) (hge _ (by omega) (by omega)) hm (by omega) (by omega) h1 (by omega) hdot h3 hn
    (by rw [← cl_len, hW, cl_len]; omega) (by rw [← cl_len, hP, cl_len]; omega) (by rw [hW]; exact hAd) (by rw [hP]; exact hBd) (by rw [hW]; exact hA) (by rw [hW, hP]; exact fun q => due_big hA q)
  rw [hW, hP] at key
  exact key
theorem rnM_ok (w : World) (s₀ : Shared) (mg mb : Str → Option Value) (news : List (Addr × Obj)) (X A B : Str) (t1 : Tok) (z : Nat) (r : List Nat)
   (hX : cl X = [45] ++ (cl A ++ 46 :: cl B)) (hA : cl A = List.replicate z 48 ++ 57 :: r) (hAd : AllDigits (cl A)) (hBd : AllDigits (cl B)) (hAl : A.length ≤ 900) (hBl : B.length ≤ 900) :
    Claim w s₀ mg mb 115 [.str X t1] 12 news (RetT news (-(due (topOf (cl A) (cl B)) (botOf (cl B))).1) (due (topOf (cl A) (cl B)) (botOf (cl B))).2) := by
  have hl := x_len hX
  have hlA := len_of hA
  have hW := x_W hX
  have hP := x_P hX
  have hdot := x_dot hX
  have hge := fun i h0 h1 => x_ge hX (by simp) hAd hBd (i := i) h0 h1
  have h1 := fun i h0 h1 => hAd _ (x_get1 hX (i := i) h0 h1)
  have h2 := x_get2 hX
  have h3 := fun i h0 h1 => hBd _ (x_get3 hX (i := i) h0 h1)
  have hn := x_ne hX (by omega) (P := Txt.slice X (some (1 + (A.length : Int) + 1)) (some (X.length : Int)))
  simp only [List.length_cons, List.length_nil, Nat.zero_add, Int.natCast_one] at hl hW hP hdot hge h1 h2 h3 hn
  have hm : (Txt.slice X none (some 1) == Str.ofString "-") = true := by
    rw [x_first hX, hX]
    exact decide_eq_true rfl
  have key := rnm_ok w s₀ mg mb news X t1 (1 + (A.length : Int)) z r (by omega) (hge 0 (by omega) (by omega)) (hge _ (by omega) (by omega)) hm (by omega) (by omega) h1 (by omega) hdot h3 hn
    (by rw [← cl_len, hW, cl_len]; omega) (by rw [← cl_len, hP, cl_len]; omega) (by rw [hW]; exact hAd) (by rw [hP]; exact hBd) (by rw [hW]; exact hA) (by rw [hW, hP]; exact fun q => due_big hA q)
  rw [hW, hP] at key
  exact key
end
section
open PySem.Calls PySem.NumText
theorem all_rep {n c : Nat} (h : 48 ≤ c ∧ c ≤ 57) : AllDigits (List.replicate n c) := fun d hd => by rw [List.eq_of_mem_replicate hd]; exact h
theorem xP (A B : Str) : cl (((Str.ofString "" ++ A) ++ Str.ofString ".") ++ B) = [] ++ (cl A ++ 46 :: cl B) := by
  have e1 : cl (Str.ofString "") = [] := by decide +kernel
  have e2 : cl (Str.ofString ".") = [46] := by decide +kernel
  rw [cl_append, cl_append, cl_append, e1, e2]; simp
theorem xM (A B : Str) : cl (((Str.ofString "-" ++ A) ++ Str.ofString ".") ++ B) = [45] ++ (cl A ++ 46 :: cl B) := by
  have e1 : cl (Str.ofString "-") = [45] := by decide +kernel
  have e2 : cl (Str.ofString ".") = [46] := by decide +kernel
  rw [cl_append, cl_append, cl_append, e1, e2]; simp
theorem tx_A {d e : Int} (he : 0 ≤ e) : cl (Txt.mul (Str.ofString "0") d ++ Txt.mul (Str.ofString "9") (399 + e)) = List.replicate d.toNat 48 ++ 57 :: List.replicate (398 + e).toNat 57 := by
  rw [cl_append, cl_mul0, cl_mul9]
  have : (399 + e).toNat = (398 + e).toNat + 1 := by omega
  rw [this, List.replicate_succ]
theorem tx_Ad {d e : Int} : AllDigits (cl (Txt.mul (Str.ofString "0") d ++ Txt.mul (Str.ofString "9") e)) := by
  rw [cl_append, cl_mul0, cl_mul9]
  exact all_app (all_rep (by decide)) (all_rep (by decide))
theorem tx_Al {d e : Int} (h1 : d < 3) (h2 : e < 3) : (Txt.mul (Str.ofString "0") d ++ Txt.mul (Str.ofString "9") (399 + e)).length ≤ 900 := by
  rw [← cl_len, cl_append, cl_mul0, cl_mul9, List.length_append, List.length_replicate, List.length_replicate]
  omega
theorem tx_Bd {k : Int} {x : Str} (hx : AllDigits (cl x)) : AllDigits (cl (Txt.mul (Str.ofString "9") k ++ x)) := by
  rw [cl_append, cl_mul9]
  exact all_app (all_rep (by decide)) hx
theorem tx_Bl {k : Int} {x : Str} (h : k < 4) (hx : x.length ≤ 1) : (Txt.mul (Str.ofString "9") (398 + k) ++ x).length ≤ 900 := by
  rw [← cl_len, cl_append, cl_mul9, List.length_append, List.length_replicate, cl_len]
  omega
theorem dig3 {v : Value} {t1 t2 t3 : Tok} (h : v ∈ [Value.str (Str.ofString "") t1, .str (Str.ofString "4") t2, .str (Str.ofString "5") t3]) : ∃ x t, v = .str x t ∧ x.length ≤ 1 ∧ AllDigits (cl x) ∧ ∀ c ∈ cl x, c = 52 ∨ c = 53 := by
  have e1 : cl (Str.ofString "") = [] := by decide +kernel
  have e2 : cl (Str.ofString "4") = [52] := by decide +kernel
  have e3 : cl (Str.ofString "5") = [53] := by decide +kernel
  obtain ⟨x, t, h1, h2 | h2 | h2⟩ := str3 h
  · subst h2
    refine ⟨_, t, h1, by decide +kernel, ?_, ?_⟩ <;> rw [e1] <;> intro c hc <;> cases hc
  · subst h2
    refine ⟨_, t, h1, by decide +kernel, ?_, ?_⟩ <;> rw [e2] <;> intro c hc <;> simp at hc <;> omega
  · subst h2
    refine ⟨_, t, h1, by decide +kernel, ?_, ?_⟩ <;> rw [e3] <;> intro c hc <;> simp at hc <;> omega
theorem tx_int {x : Str} (h : AllDigits (cl x)) (h1 : 0 < x.length) (h2 : x.length ≤ 4300) : PySem.intText? x = some ((digitsVal (cl x) : Nat) : Int) :=
  intText_digits h (fun q => by have := congrArg List.length q; rw [cl_len] at this; simp at this; omega) h2
theorem tx_seen {x : Str} (h : AllDigits (cl x)) (h1 : 640 < x.length) : ¬ (numSeenOf x).length ≤ 640 := by
  have ⟨_, e⟩ := numText_signs (x := x) (fun c hc => Or.inr (h c hc))
  rw [e, cl_len]
  omega
theorem tx_kept {d e k : Int} {x : Str} (hx : AllDigits (cl x)) : AllDigits (cl ((Txt.mul (Str.ofString "0") d ++ Txt.mul (Str.ofString "9") e) ++ Txt.slice (Txt.mul (Str.ofString "9") k ++ x) none (some 400))) := by
  rw [cl_append, sl_to (by decide)]
  exact all_app tx_Ad (all_take (tx_Bd hx) _)
theorem tx_klen {d e k : Int} {x : Str} (hd : d < 3) (he0 : 0 ≤ e) (he : e < 3) (hk0 : 0 ≤ k) (hk : k < 4) : 640 < ((Txt.mul (Str.ofString "0") d ++ Txt.mul (Str.ofString "9") (399 + e)) ++ Txt.slice (Txt.mul (Str.ofString "9") (398 + k) ++ x) none (some 400)).length ∧ ((Txt.mul (Str.ofString "0") d ++ Txt.mul (Str.ofString "9") (399 + e)) ++ Txt.slice (Txt.mul (Str.ofString "9") (398 + k) ++ x) none (some 400)).length ≤ 1000 := by
  rw [← cl_len, cl_append, sl_to (by decide), cl_append, cl_append, cl_mul0, cl_mul9, cl_mul9, List.length_append, List.length_append, List.length_replicate, List.length_replicate, List.length_take, List.length_append, List.length_replicate]
  have : (400 : Int).toNat = 400 := rfl
  omega
abbrev AH (d e : Int) : Str := Txt.mul (Str.ofString "0") d ++ Txt.mul (Str.ofString "9") (399 + e)
abbrev BH (k : Int) (x : Str) : Str := Txt.mul (Str.ofString "9") (398 + k) ++ x
theorem rnPt (w : World) (s₀ : Shared) (mg mb : Str → Option Value) (news : List (Addr × Obj)) (d e k : Int) (x : Str) (t1 : Tok) (hd : d < 3) (he0 : 0 ≤ e) (he : e < 3) (hk : k < 4) (hxl : x.length ≤ 1) (hxd : AllDigits (cl x)) :
    Claim w s₀ mg mb 115 [.str (((Str.ofString "" ++ (Txt.mul (Str.ofString "0") d ++ Txt.mul (Str.ofString "9") (399 + e))) ++ Str.ofString ".") ++ (Txt.mul (Str.ofString "9") (398 + k) ++ x)) t1] 12 news
      (RetRN news (400 < (List.replicate (398 + e).toNat 57).length + 1) (due (topOf (cl (AH d e)) (cl (BH k x))) (botOf (cl (BH k x)))).1 (due (topOf (cl (AH d e)) (cl (BH k x))) (botOf (cl (BH k x)))).2) :=
  rnP_ok w s₀ mg mb news _ (AH d e) (BH k x) t1 _ _ (xP _ _) (tx_A he0) tx_Ad (tx_Bd hxd) (tx_Al hd he) (tx_Bl hk hxl)
theorem rnMt (w : World) (s₀ : Shared) (mg mb : Str → Option Value) (news : List (Addr × Obj)) (d e k : Int) (x : Str) (t1 : Tok) (hd : d < 3) (he0 : 0 ≤ e) (he : e < 3) (hk : k < 4) (hxl : x.length ≤ 1) (hxd : AllDigits (cl x)) :
    Claim w s₀ mg mb 115 [.str (((Str.ofString "-" ++ (Txt.mul (Str.ofString "0") d ++ Txt.mul (Str.ofString "9") (399 + e))) ++ Str.ofString ".") ++ (Txt.mul (Str.ofString "9") (398 + k) ++ x)) t1] 12 news
      (RetT news (-(due (topOf (cl (AH d e)) (cl (BH k x))) (botOf (cl (BH k x)))).1) (due (topOf (cl (AH d e)) (cl (BH k x))) (botOf (cl (BH k x)))).2) :=
  rnM_ok w s₀ mg mb news _ (AH d e) (BH k x) t1 _ _ (xM _ _) (tx_A he0) tx_Ad (tx_Bd hxd) (tx_Al hd he) (tx_Bl hk hxl)
theorem int_t {prog : Program} {w : World} {A : Around} {E : Value → Shared → Prop} {s : Shared} {Q : Value → Shared → Prop} {d e k : Int} {x : PySem.Str} {t : Tok} (hd : d < 3) (he0 : 0 ≤ e) (he : e < 3) (hk0 : 0 ≤ k) (hk : k < 4) (hxd : AllDigits (cl x)) (hn : s.heap.NoDigits)
   (h : Q (.int ((digitsVal (cl ((Txt.mul (Str.ofString "0") d ++ Txt.mul (Str.ofString "9") (399 + e)) ++ Txt.slice (Txt.mul (Str.ofString "9") (398 + k) ++ x) none (some 400))) : Nat) : Int) s.toks) { s with toks := s.toks + 1 }) :
   wpAny (model prog w) A (call (.type "int") [.str ((Txt.mul (Str.ofString "0") d ++ Txt.mul (Str.ofString "9") (399 + e)) ++ Txt.slice (Txt.mul (Str.ofString "9") (398 + k) ++ x) none (some 400)) t]) Q E s := by
  have ⟨l1, l2⟩ := tx_klen (x := x) hd he0 he hk0 hk
  refine call_text2 (tx_int (tx_kept hxd) (by omega) (by omega)) (tx_seen (tx_kept hxd) l1) (by rw [sizeLine_eq]; omega) hn h
theorem tx_more {k : Int} {x : Str} (hx : ∀ c ∈ cl x, c = 52 ∨ c = 53) : (if ([Str.ofString "5", Str.ofString "9"].any fun y => y == Txt.slice (Txt.mul (Str.ofString "9") (398 + k) ++ x) (some 400) (some 401)) = true then (1 : Int) else 0) = moreOf (cl (BH k x)) := by
  have hm : ∀ c ∈ cl (BH k x), c = 52 ∨ c = 53 ∨ c = 57 := by
    intro c hc
    rw [cl_append, cl_mul9] at hc
    rcases List.mem_append.mp hc with h | h
    · exact Or.inr (Or.inr (List.eq_of_mem_replicate h))
    · rcases hx c h with h | h
      · exact Or.inl h
      · exact Or.inr (Or.inl h)
  have hs : cl (Txt.slice (BH k x) (some 400) (some 401)) = ((cl (BH k x)).drop 400).take 1 := sl_ss (by decide) (by decide)
  have f5 : Str.ofString "5" = (⟨#[53]⟩ : Str) := by decide +kernel
  have f9 : Str.ofString "9" = (⟨#[57]⟩ : Str) := by decide +kernel
  show (if ([Str.ofString "5", Str.ofString "9"].any fun y => y == Txt.slice (BH k x) (some 400) (some 401)) = true then (1 : Int) else 0) = moreOf (cl (BH k x))
  rw [f5, f9]
  unfold moreOf
  generalize hl : cl (BH k x) = l at *
  rw [← List.head?_drop]
  cases hd : l.drop 400 with
  | nil =>
    rw [hd] at hs
    have e : Txt.slice (BH k x) (some 400) (some 401) = (⟨#[]⟩ : Str) := cl_ext hs
    rw [e]
    rfl
  | cons c t =>
    rw [hd] at hs
    have e : Txt.slice (BH k x) (some 400) (some 401) = (⟨#[c]⟩ : Str) := cl_ext hs
    have hc := hm c (List.mem_of_mem_drop (by rw [hd]; exact List.mem_cons_self ..))
    rw [e]
    show _ = (if 53 ≤ c then (1 : Int) else 0)
    clear hd hs e
    rcases hc with rfl | rfl | rfl <;> decide +kernel
theorem tx_top {d e k : Int} {x : Str} (hx : ∀ c ∈ cl x, c = 52 ∨ c = 53) : ((digitsVal (cl ((Txt.mul (Str.ofString "0") d ++ Txt.mul (Str.ofString "9") (399 + e)) ++ Txt.slice (Txt.mul (Str.ofString "9") (398 + k) ++ x) none (some 400))) : Nat) : Int) + (if ([Str.ofString "5", Str.ofString "9"].any fun y => y == Txt.slice (Txt.mul (Str.ofString "9") (398 + k) ++ x) (some 400) (some 401)) = true then (1 : Int) else 0) = topOf (cl (AH d e)) (cl (BH k x)) := by
  rw [tx_more hx]
  unfold topOf
  rw [cl_append (AH d e), sl_to (by decide)]
  rfl
theorem tx_b1 {d e k : Int} {x : Str} (hd : d < 3) (he : e < 3) (hxd : AllDigits (cl x)) : bits (topOf (cl (AH d e)) (cl (BH k x))) ≤ 4500 := by
  have h1 : AllDigits (cl (AH d e) ++ (cl (BH k x)).take 400) := all_app tx_Ad (all_take (tx_Bd hxd) _)
  have hl : (cl (AH d e) ++ (cl (BH k x)).take 400).length ≤ 1000 := by
    rw [cl_append, cl_mul0, cl_mul9, List.length_append, List.length_append, List.length_replicate, List.length_replicate, List.length_take]
    omega
  unfold topOf
  refine Nat.le_trans (bits_add2 (bits_dv h1 hl) (k := 5) ?_) (by decide)
  rcases more_01 (cl (BH k x)) with h | h <;> rw [h] <;> decide
theorem tx_b2 {l : List Nat} : bits (botOf l) ≤ 4500 := Nat.le_trans (bits_p10 (k := 400) (by rw [List.length_take]; omega)) (by decide)
theorem ldue_t (w : World) (s₀ : Shared) (mg mb : Str → Option Value) (news : List (Addr × Obj)) (d e k : Int) (x : Str) (t1 t2 : Tok) (hd : d < 3) (he : e < 3) (hxd : AllDigits (cl x)) (hx : ∀ c ∈ cl x, c = 52 ∨ c = 53) :
    Claim w s₀ mg mb 171 [.int (((digitsVal (cl ((Txt.mul (Str.ofString "0") d ++ Txt.mul (Str.ofString "9") (399 + e)) ++ Txt.slice (Txt.mul (Str.ofString "9") (398 + k) ++ x) none (some 400))) : Nat) : Int) + (if ([Str.ofString "5", Str.ofString "9"].any fun y => y == Txt.slice (Txt.mul (Str.ofString "9") (398 + k) ++ x) (some 400) (some 401)) = true then (1 : Int) else 0)) t1,
      .int ((10 : Int) ^ (((Txt.slice (Txt.mul (Str.ofString "9") (398 + k) ++ x) none (some 400)).length : Int)).toNat) t2] 2 news (RetT news (due (topOf (cl (AH d e)) (cl (BH k x))) (botOf (cl (BH k x)))).1 (due (topOf (cl (AH d e)) (cl (BH k x))) (botOf (cl (BH k x)))).2) := by
  rw [tx_top hx, nd_bot]
  exact ldue_ok w s₀ mg mb news _ _ t1 t2 p10_pos (tx_b1 hd he hxd) tx_b2
theorem eq_k16 {w : World} {A : Around} {E : Value → Shared → Prop} {s : Shared} {h₀ : Heap} {L b : Addr} {m : Str → Option Value} {news : List (Addr × Obj)} {Q : Value → Shared → Prop} {x' y' : Int} {t1 t2 t3 t4 : Tok} {d n : Nat} {K : Frag} {dd : Option Addr} {sl : Array (Option Value)} {prog : Program}
   (F : Fr h₀ L s.heap m) (X : K.In h₀) (N : News h₀ L s.heap news) (hl : K.lookup 16 = some ⟨.type "tuple", dd, .seq #[.int 1 t1, .int 0 t2] n, sl⟩) (hb : (b, tup x' t3 y' t4 d) ∈ news) (hu : A.units + 64 < cLine) (e : (1, 0) = (x', y')) (h : Q (.bool true) s) :
    wpAny (model prog w) A (compareOp .Eq (.ref 16) (.ref b)) Q E s := by
  obtain ⟨_, r2⟩ := reads_tup N hb
  have r1 : Reads s.heap (.ref 16) (PT (1, 0)) _ := reads_tuple_at ((X.keeps F.keep) _ _ hl) rfl rfl (ReadsAll.cons (Reads.int _ _) (ReadsAll.cons (Reads.int _ _) ReadsAll.nil))
  refine eq_dataH r1 r2 (shaped_PT _) (shaped_PT _) hu ?_
  rw [eqv_PT, decide_eq_true e]; exact h
theorem e16 {d e k : Int} {x : Str} (he : 0 ≤ e) (hb : 400 < (List.replicate (398 + e).toNat 57).length + 1) : ((1 : Int), (0 : Int)) = ((due (topOf (cl (AH d e)) (cl (BH k x))) (botOf (cl (BH k x)))).1, (due (topOf (cl (AH d e)) (cl (BH k x))) (botOf (cl (BH k x)))).2) := by
  rw [due_big (tx_A he) hb]
theorem tl_app {x y : Str} {a b : Nat} (hx : x.length ≤ a) (hy : y.length ≤ b) : (x ++ y).length ≤ a + b := by
  rw [PySem.Str.length_append]; omega
theorem tl_mul9 {k : Int} (h : k ≤ 402) : (Txt.mul (Str.ofString "9") k).length ≤ 500 := by
  rw [← cl_len, cl_mul9, List.length_replicate]; omega
theorem tl_mul0 {k : Int} (h : k ≤ 402) : (Txt.mul (Str.ofString "0") k).length ≤ 500 := by
  rw [← cl_len, cl_mul0, List.length_replicate]; omega
theorem tl_sl {x : Str} {a : Nat} {i j : Option Int} (hx : x.length ≤ a) : (Txt.slice x i j).length ≤ a := Nat.le_trans (_root_.PyProof.Txt.length_slice_le x _ _) hx
theorem tl_lit {x : Str} (h : x.length ≤ 1) : x.length ≤ 1 := h
theorem tl_size {x : Str} {a : Nat} (h : x.length ≤ a) (ha : a ≤ 16777216) : x.length ≤ sizeLine := by rw [sizeLine_eq]; omega
theorem tl_m9 {k : Int} (h0 : 0 ≤ k) (h : k ≤ 402) : MulOk (Str.ofString "9") k := mulOk_of 16 1048576 (by decide +kernel) (by omega) (by omega) (by decide) (by decide)
theorem tl_m0 {k : Int} (h0 : 0 ≤ k) (h : k ≤ 402) : MulOk (Str.ofString "0") k := mulOk_of 16 1048576 (by decide +kernel) (by omega) (by omega) (by decide) (by decide)
set_option maxHeartbeats 2000000 in
theorem text_ok (w : World) (s₀ : Shared) (mg mb : Str → Option Value) (S : Addr) (a : Int) (ta : Tok) (b : Int) (tb : Tok) (c : Nat)
   (ha : 0 ≤ a) (hb : 0 ≤ b) (hb2 : b < 2147483647) :
    Claim w s₀ mg mb 199 [.ref S] 30 [(S, lst2 a ta b tb c)] (RetPart S) := by
  unfold Claim RetPart
  k_with_none
  k_with "m eval Constant int" => ((k_here; dsimp only; walk_at "eval Constant int"))
  k_with "m newTuple" => ((k_here; dsimp only; walk_at "newTuple"))
  k_with "m newList" => ((k_here; dsimp only; walk_at "newList"))
  k_with "m callWith ref nil nil" => ((k_here; (with_reducible show wpAny _ _ (callWith _ (Value.ref _) _ (backTo _ (starEach [] _)) []) _ _ _); (with_reducible rename Fr _ _ _ _ => kF9); k_dflt (refine' callWith_K0 (by exact Frag.In.keeps (by k_asm) (Fr.keep kF9)) (by k_is) ?_; k_whole)))
  k_with "m bits_fit" => (first | assumption | exact bits_M | exact bits_Rt | exact bits_mul (by bits_fit) (by bits_fit) | exact bits_add2 (by bits_fit) (by bits_fit) | exact bits_sub2 (by bits_fit) (by bits_fit) | exact bits_neg (by bits_fit) | exact bits_pm (by assumption) | exact bits_nn (by assumption) (by assumption) (by decide) | exact bits_small (by decide) (by decide) | exact bits_small (by omega) (by omega))
  k_with "m mul_fits" => (first | exact mul_ok (Nat.le_trans (by bits_fit) (by decide)) (Nat.le_trans (by bits_fit) (by decide)))
  k_with "m subscriptTail Name Constant ref int" => ((k_here; (with_reducible show wpAny _ _ (subscriptTail _ _ (Value.ref _) (Value.int _ _)) _ _ _); k_dflt (refine' item_tupleT (by exact News.isTup (by k_asm) (by k_mem)) (by decide) (by decide) (by rfl) (by rfl) ?_; k_whole)))
  k_with "m subscriptTail Name Constant ref int" => ((k_here; (with_reducible show wpAny _ _ (subscriptTail _ _ (Value.ref _) (Value.int _ _)) _ _ _); k_dflt (refine' getItem_at (by exact mem_news (by k_asm) (by k_mem)) (by decide) (by decide) (by rfl) ?_; k_whole)))
  k_with "m call ref" => ((k_here; (with_reducible show wpAny _ _ (call (Value.ref 150) _) _ _ _); k_dflt (refine' use2 (by k_asm) (by k_asm) (by k_asm) (by first | assumption | exact swap1 (by assumption) | exact swap2 (by assumption) | exact swap3 (by assumption) | exact swap4 (by assumption) | exact swap5 (by assumption) | exact swap6 (by assumption)) (by k_asm) (by first | exact rfl | assumption) (take_ok _ _ _ _ _ _ _ _ _ _ _ _ _ (by k_all) (by first | assumption | omega | decide) (by first | assumption | omega | decide) (by assumption) (by assumption) (by assumption)) (by first | exact un3 (by assumption) (by exact rfl) | ktr_room) (by first | exact un3 (by assumption) (by exact rfl) | ktr_units) ?_; (dsimp only [RetTake]; intro d' td' a' ta' b' tb' c' h' tk' hd0 hd1 ha' hb' hb2' F' N'; (try dsimp only); (try k_fold)))))
  k_with "m ite" => (first | refine ite_pos (by first | assumption | exact beq_iff_eq.mpr rfl | exact beq_iff_eq.mpr (by assumption) | decide) ?_ | refine ite_neg (by first | assumption | exact ntf (by assumption) | decide) ?_)
  k_with "m call ref" => ((k_here; (with_reducible show wpAny _ _ (call (Value.ref 157) _) _ _ _); k_dflt (refine' use2 (by k_asm) (by k_asm) (by k_asm) (by first | assumption | exact swap1 (by assumption) | exact swap2 (by assumption) | exact swap3 (by assumption) | exact swap4 (by assumption) | exact swap5 (by assumption) | exact swap6 (by assumption)) (by k_asm) (by first | exact rfl | assumption) (one_ok _ _ _ _ _ _ _ _ _ _ _ _ _ _ (by k_mem) (by k_all) (by assumption) (by assumption) (by assumption) (by simp; done) (by simp; done)) (by first | exact un3 (by assumption) (by exact rfl) | ktr_room) (by first | exact un3 (by assumption) (by exact rfl) | ktr_units) ?_; (dsimp only [RetOne]; intro v' a' ta' b' tb' c' h' tk' hv' ha' hb' hb2' F' N'; (first | (obtain ⟨x', tx', hx', hs', hsd', hsc'⟩ := dig3 hv'; subst hx'; clear hv') | (obtain ⟨x', tx', hx', hs'⟩ := str2 hv'; subst hx'; clear hv'; (rcases hs' with hs' | hs') <;> subst hs')); (try dsimp only); (try k_fold)))))
  k_with "m call ref" => ((k_here; (with_reducible show wpAny _ _ (call (Value.ref 115) [Value.str (((Str.ofString "" ++ _) ++ _) ++ _) _]) _ _ _); k_dflt (refine' use2 (by k_asm) (by k_asm) (by k_asm) (by k_asm) (by k_asm) (by first | exact rfl | assumption) (rnPt _ _ _ _ _ _ _ _ _ _ (by assumption) (by assumption) (by assumption) (by assumption) (by assumption) (by assumption)) (by first | exact un3 (by assumption) (by exact rfl) | ktr_room) (by first | exact un3 (by assumption) (by exact rfl) | ktr_units) ?_; (dsimp only [RetRN]; intro v' h' tk' F' hc9; (rcases hc9 with ⟨hb9, hv9, N'⟩ | ⟨hb9, D', t1', t2', c', hv9, N', l1'⟩) <;> subst hv9 <;> (try k_lt l1'); (try dsimp only); (try k_fold)))))
  k_with "m call ref" => ((k_here; (with_reducible show wpAny _ _ (call (Value.ref 115) [Value.str (((Str.ofString "-" ++ _) ++ _) ++ _) _]) _ _ _); k_dflt (refine' use2 (by k_asm) (by k_asm) (by k_asm) (by k_asm) (by k_asm) (by first | exact rfl | assumption) (rnMt _ _ _ _ _ _ _ _ _ _ (by assumption) (by assumption) (by assumption) (by assumption) (by assumption) (by assumption)) (by first | exact un3 (by assumption) (by exact rfl) | ktr_room) (by first | exact un3 (by assumption) (by exact rfl) | ktr_units) ?_; (dsimp only [RetT]; intro D' t1' t2' c' h' tk' F' N' l1'; (try k_lt l1'); (try dsimp only); (try k_fold)))))
  k_with "m call type:int" => ((k_here; (with_reducible show wpAny _ _ (call (Value.type "int") [Value.str _ _]) _ _ _); (with_reducible rename Fr _ _ _ _ => kF9); k_dflt (refine' int_t (by assumption) (by assumption) (by assumption) (by assumption) (by assumption) (by assumption) (by exact Heap.NoDigits.keeps (Top.nodigits (by k_asm)) (Fr.keep kF9)) ?_; k_whole)))
  k_with "m call ref" => ((k_here; (with_reducible show wpAny _ _ (call (Value.ref 171) _) _ _ _); k_dflt (refine' use2 (by k_asm) (by k_asm) (by k_asm) (by k_asm) (by k_asm) (by first | exact rfl | assumption) (ldue_t _ _ _ _ _ _ _ _ _ _ _ (by assumption) (by assumption) (by assumption) (by assumption)) (by first | exact un3 (by assumption) (by exact rfl) | ktr_room) (by first | exact un3 (by assumption) (by exact rfl) | ktr_units) ?_; (dsimp only [RetT]; intro D' t1' t2' c' h' tk' F' N' l1'; (try k_lt l1'); (try dsimp only); (try k_fold)))))
  k_with "m compareOp Eq ref ref" => ((k_here; (with_reducible show wpAny _ _ (compareOp CmpOp.Eq (Value.ref _) (Value.ref _)) _ _ _); k_dflt (refine' eq_tup (by k_asm) (by k_mem) (by k_mem) (by first | exact un3 (by assumption) (by exact rfl) | ktr_units) (by rfl) ?_; k_whole)))
  k_with "m compareOp Eq ref ref" => ((k_here; (with_reducible show wpAny _ _ (compareOp CmpOp.Eq (Value.ref 16) (Value.ref _)) _ _ _); k_dflt (refine' eq_k16 (by k_asm) (by k_asm) (by k_asm) (by k_is) (by k_mem) (by first | exact un3 (by assumption) (by exact rfl) | ktr_units) (by exact e16 (by assumption) (by assumption)) ?_; k_whole)))
  k_with "m tlen" => (first | ((with_reducible refine' tl_mul9 ?_); omega) | ((with_reducible refine' tl_mul0 ?_); omega) | exact tl_app (by k_extra "m tlen") (by k_extra "m tlen") | exact tl_sl (by k_extra "m tlen") | exact tl_lit (by first | assumption | decide +kernel))
  k_with "m binaryOp Mult str int" => (k_here; (with_reducible show wpAny _ _ (binaryOp Operator.Mult (Value.str _ _) (Value.int _ _)) _ _ _); (refine SB.mul (by first | exact tl_m9 (by omega) (by omega) | exact tl_m0 (by omega) (by omega)) ?_); intro _ _)
  k_with "m binaryOp Add str str" => (k_here; (with_reducible show wpAny _ _ (binaryOp Operator.Add (Value.str _ _) (Value.str _ _)) _ _ _); (refine' KXadd.add (by k_extra "m tlen") (by k_extra "m tlen") (by exact Nat.le_of_ble_eq_true rfl) ?_); intro _ _ h9; clear h9)
  k_with "m subscriptTail Name Slice str ref" => (k_here; (with_reducible show wpAny _ _ (subscriptTail _ (Expr.Slice none (some _) none _) _ _) _ _ _); (with_reducible rename Fr _ _ _ _ => F9); (with_reducible rename News _ _ _ _ => N9); (refine slice_strN_ns_len (hsz := by exact tl_size (by k_extra "m tlen") (Nat.le_of_ble_eq_true rfl)) (s := ⟨_, _, _, _, _⟩) F9 N9 ?_); intro _ _ _ _ _ hs9; replace hs9 := Nat.le_trans hs9 (by k_extra "m tlen"))
  k_with "m subscriptTail Name Slice str ref" => (k_here; (with_reducible show wpAny _ _ (subscriptTail _ (Expr.Slice (some _) (some _) none _) _ _) _ _ _); (with_reducible rename Fr _ _ _ _ => F9); (with_reducible rename News _ _ _ _ => N9); (refine slice_strN_ss (hsz := by exact tl_size (by k_extra "m tlen") (Nat.le_of_ble_eq_true rfl)) (s := ⟨_, _, _, _, _⟩) F9 N9 ?_); intro _ _ _ _ _)
  k_fill
  w_top on
  intro dp un gd cn cs a ccd cl outer A₀ base h₀ L m s Q E B F X N T hk hd hu hret
  refine wpAny_call ?_
  k_dflt cell_enter
  k_steps
  all_goals first
    | (rename News _ _ _ _ => kN9; refine' hret _ _ _ _ _ _ _ ?e2 ?e3 ?e4 ?eF ?eN; (case eF => assumption); (case eN => exact news_one kN9 (by k_mem)); (case e2 => assumption); (case e3 => assumption); (case e4 => assumption))
    | trace_state
end
section
open PySem.Calls
theorem len_pos {ns : List Int} (h : decide (ns = []) = false) : (0 : Int) < (ns.length : Int) := by
  cases ns with
  | nil => cases h
  | cons a r => rw [List.length_cons]; omega
set_option maxHeartbeats 8000000 in
theorem pool_ok (w : World) (s₀ : Shared) (mg mb : Str → Option Value) (l : Addr) (vs : List Value) (ns : List Int) (hI : IntsAre vs ns)
  (dp un : Nat) (gd : Option (List Code)) (cn : Str) (cs : Scope) (a : Addr) (ccd : Value) (cl : List (Str × Addr)) (outer : List Env) (A₀ : Around) (base h₀ : Heap) (L : Addr) (m : Str → Option Value) (s : Shared) (Q E : Value → Shared → Prop)
  (B : Below A₀ base outer h₀) (F : Fr h₀ L s.heap m) (X : (hd.heap_39 w.params).In h₀) (T : Top hd.view_39 (looseW hd.view_39 [Str.ofString "MOST", Str.ofString "number_of"]) (ExcName.means s₀.heap) mg mb h₀) (hk : cs.kind = .function)
  (hl : h₀.IsList l vs.toArray) (hd : dp + 20 < recursionLimit) (hu : un + 8 * 20 < cLine)
  (hret : ∀ (S : Addr) (a : Int) (ta : Tok) (b : Int) (tb : Tok) (c : Nat) (h' : Heap) (tk' : Nat), 0 ≤ a → 0 ≤ b → b < 2147483647 → Fr h₀ L h' m → News h₀ L h' [(S, lst2 a ta b tb c)] → Q (.ref S) { s with heap := h', toks := tk' }) :
      wpAny (model PySem.Challenge.rw_sm0077_01.row.prog w) (ktrTop dp un gd cn cs L a ccd cl outer) (call (.ref 143) [.ref l]) Q E s := by
  k_with_none
  k_with "m subscriptTail Name Constant ref int" => (((with_reducible show wpAny _ _ (subscriptTail _ _ (Value.ref _) (Value.int _ _)) _ _ _); (with_unfolding_all refine' item_list_ints (by is_list) (by l_ints) (by first | decide | exact len_pos (by assumption) | l_idx) (by first | decide | exact len_pos (by assumption) | l_idx) (by first | decide | exact len_pos (by assumption) | l_idx) ?_; k_whole); intro _))
  k_with "m eval Constant int" => ((k_here; dsimp only; walk_at "eval Constant int"))
  k_with "m newTuple" => ((k_here; dsimp only; walk_at "newTuple"))
  k_with "m newList" => ((k_here; dsimp only; walk_at "newList"))
  k_with "m callWith ref nil nil" => ((k_here; (with_reducible show wpAny _ _ (callWith _ (Value.ref _) _ (backTo _ (starEach [] _)) []) _ _ _); (with_reducible rename Fr _ _ _ _ => kF9); k_dflt (refine' callWith_K0 (by exact Frag.In.keeps (by k_asm) (Fr.keep kF9)) (by k_is) ?_; k_whole)))
  k_with "m bits_fit" => (first | assumption | exact bits_M | exact bits_Rt | exact bits_mul (by bits_fit) (by bits_fit) | exact bits_add2 (by bits_fit) (by bits_fit) | exact bits_sub2 (by bits_fit) (by bits_fit) | exact bits_neg (by bits_fit) | exact bits_pm (by assumption) | exact bits_nn (by assumption) (by assumption) (by decide) | exact bits_small (by decide) (by decide) | exact bits_small (by omega) (by omega))
  k_with "m mul_fits" => (first | exact mul_ok (Nat.le_trans (by bits_fit) (by decide)) (Nat.le_trans (by bits_fit) (by decide)))
  k_with "m subscriptTail Name Constant ref int" => ((k_here; (with_reducible show wpAny _ _ (subscriptTail _ _ (Value.ref _) (Value.int _ _)) _ _ _); k_dflt (refine' getItem_at (by exact mem_news (by k_asm) (by k_mem)) (by decide) (by decide) (by rfl) ?_; k_whole)))
  k_with "m subscriptTail Name Constant ref int" => (((with_reducible show wpAny _ _ (subscriptTail _ _ (Value.ref _) (Value.int _ _)) _ _ _); (with_unfolding_all refine' item_list_ints (by exact Fr.lst (by k_asm) (Fr.lst (by k_asm) hl)) (by assumption) (by first | decide | exact len_pos (by assumption) | l_idx) (by first | decide | exact len_pos (by assumption) | l_idx) (by first | decide | exact len_pos (by assumption) | l_idx) ?_; k_whole); intro _))
  k_with "m compareOp NotEq ref ref" => (k_here; (with_reducible show wpAny _ _ (compareOp CmpOp.NotEq (Value.ref _) (Value.ref _)) _ _ _); k_dflt (refine ke_ne_ints (by exact Fr.lst (by k_asm) (Fr.lst (by k_asm) hl)) (by is_list) (by assumption) (by l_ints) (by first | exact un3 (by assumption) (by exact rfl) | ktr_units) ?_); ke_norm)
  have N : News h₀ L s.heap [] := fun p hp => by cases hp
  revert dp un gd cn cs a ccd cl outer A₀ base h₀ L m s Q E
  k_fill
  w_top on
  intro dp un gd cn cs a ccd cl outer A₀ base h₀ L m s Q E B F X T hk hl hd hu hret N
  refine wpAny_call ?_
  k_dflt cell_enter
  k_steps
  all_goals first
    | (rename News _ _ _ _ => kN9; refine' hret _ _ _ _ _ _ _ _ ?e2 ?e3 ?e4 ?eF ?eN; (case eF => assumption); (case eN => exact news_one kN9 (by k_mem)); (case e2 => first | assumption | omega); (case e3 => first | assumption | exact fmod_lo _ (by decide) | omega); (case e4 => first | assumption | exact fmod_hi _ (by decide) | omega))
    | trace_state
end
section
open PySem.Calls
theorem law_e1 : ((due ((2 * M - 1) * (2 * M + 1)) (2 * Rt * (2 * Rt))).1, (due ((2 * M - 1) * (2 * M + 1)) (2 * Rt * (2 * Rt))).2) = (1, 0) := by decide +kernel
theorem law_e2 : ((due ((1 - 2 * M) * (2 * M + 1)) (2 * Rt * (2 * Rt))).1, (due ((1 - 2 * M) * (2 * M + 1)) (2 * Rt * (2 * Rt))).2) = (-1, 0) := by decide +kernel
theorem law_e3 : ((due (M * (M + 1) - 1) (M + 1)).1, (due (M * (M + 1) - 1) (M + 1)).2) = (M * M - 1, M) := by decide +kernel
theorem two_Rt : 0 < 2 * Rt := by decide +kernel
theorem M_one : 0 < M + 1 := by decide +kernel
set_option maxHeartbeats 8000000 in
theorem fin : PySem.Challenge.rw_sm0077_01.Holds := hd (by
  k_with_none
  k_with "m eval Constant int" => ((k_here; dsimp only; walk_at "eval Constant int"))
  k_with "m newTuple" => ((k_here; dsimp only; walk_at "newTuple"))
  k_with "m newList" => ((k_here; dsimp only; walk_at "newList"))
  k_with "m callWith ref nil nil" => ((k_here; (with_reducible show wpAny _ _ (callWith _ (Value.ref _) _ (backTo _ (starEach [] _)) []) _ _ _); (with_reducible rename Fr _ _ _ _ => kF9); k_dflt (refine' callWith_K0 (by exact Frag.In.keeps (by k_asm) (Fr.keep kF9)) (by k_is) ?_; k_whole)))
  k_with "m bits_fit" => (first | assumption | exact bits_M | exact bits_Rt | exact bits_mul (by bits_fit) (by bits_fit) | exact bits_add2 (by bits_fit) (by bits_fit) | exact bits_sub2 (by bits_fit) (by bits_fit) | exact bits_neg (by bits_fit) | exact bits_pm (by assumption) | exact bits_nn (by assumption) (by assumption) (by decide) | exact bits_small (by decide) (by decide) | exact bits_small (by omega) (by omega))
  k_with "m mul_fits" => (first | exact mul_ok (Nat.le_trans (by bits_fit) (by decide)) (Nat.le_trans (by bits_fit) (by decide)))
  k_with "m binaryOp Pow int int" => (((with_reducible show wpAny _ _ (binaryOp Operator.Pow (Value.int M _) (Value.int 2 _)) _ _ _); (refine' powM ?_)))
  k_with "m call ref" => ((k_here; (with_reducible show wpAny _ _ (call (Value.ref 136) _) _ _ _); k_dflt (refine' use2 (by k_asm) (by k_asm) (by k_asm) (by k_asm) (by k_asm) (by first | exact rfl | assumption) (bound_ok _ _ _ _ _) (by first | exact un3 (by assumption) (by exact rfl) | ktr_room) (by first | exact un3 (by assumption) (by exact rfl) | ktr_units) ?_; (dsimp only [RetI]; intro t' h' tk' F' N'; (try dsimp only); (try k_fold)))))
  k_with "m call ref" => ((k_here; (with_reducible show wpAny _ _ (call (Value.ref 129) _) _ _ _); k_dflt (refine' use2 (by k_asm) (by k_asm) (by k_asm) (by k_asm) (by k_asm) (by first | exact rfl | assumption) (root_ok _ _ _ _ _) (by first | exact un3 (by assumption) (by exact rfl) | ktr_room) (by first | exact un3 (by assumption) (by exact rfl) | ktr_units) ?_; (dsimp only [RetI]; intro t' h' tk' F' N'; (try dsimp only); (try k_fold)))))
  k_with "m call ref" => ((k_here; (with_reducible show wpAny _ _ (call (Value.ref 66) _) _ _ _); k_dflt (refine' use2 (by k_asm) (by k_asm) (by k_asm) (by k_asm) (by k_asm) (by first | exact rfl | assumption) (times_ok _ _ _ _ _ _ _ _ _ _ _ _ _ _ _ _ _ (by k_mem) (by k_mem) (by first | exact two_Rt | assumption | exact Nat.le_trans (by bits_fit) (by decide)) (by first | exact two_Rt | assumption | exact Nat.le_trans (by bits_fit) (by decide)) (by first | assumption | exact Nat.le_trans (by bits_fit) (by decide)) (by first | assumption | exact Nat.le_trans (by bits_fit) (by decide)) (by first | assumption | exact Nat.le_trans (by bits_fit) (by decide)) (by first | assumption | exact Nat.le_trans (by bits_fit) (by decide))) (by first | exact un3 (by assumption) (by exact rfl) | ktr_room) (by first | exact un3 (by assumption) (by exact rfl) | ktr_units) ?_; (dsimp only [RetT]; intro D' t1' t2' c' h' tk' F' N' l1'; (try k_lt l1'); (try dsimp only); (try k_fold)))))
  k_with "m call ref" => ((k_here; (with_reducible show wpAny _ _ (call (Value.ref 38) _) _ _ _); k_dflt (refine' use2 (by k_asm) (by k_asm) (by k_asm) (by k_asm) (by k_asm) (by first | exact rfl | assumption) (num_ok _ _ _ _ _ _ _ _ _ (by exact M_one) (by exact Nat.le_trans (by bits_fit) (by decide)) (by exact Nat.le_trans (by bits_fit) (by decide))) (by first | exact un3 (by assumption) (by exact rfl) | ktr_room) (by first | exact un3 (by assumption) (by exact rfl) | ktr_units) ?_; (dsimp only [RetT]; intro D' t1' t2' c' h' tk' F' N' l1'; (try k_lt l1'); (try dsimp only); (try k_fold)))))
  k_with "m compareOp NotEq ref ref" => ((k_here; (with_reducible show wpAny _ _ (compareOp CmpOp.NotEq (Value.ref _) (Value.ref _)) _ _ _); k_dflt (refine' ne_tup (by k_asm) (by k_mem) (by k_mem) (by first | exact un3 (by assumption) (by exact rfl) | ktr_units) (by first | exact law_e1 | exact law_e2 | exact law_e3) ?_; k_whole)))
  k_with "m call ref" => ((k_here; (with_reducible show wpAny _ _ (call (Value.ref 178) _) _ _ _); k_dflt (refine' use2 (by k_asm) (by k_asm) (by k_asm) (by exact news_one (by k_asm) (by k_mem)) (by k_asm) (by first | exact rfl | assumption) (prod_ok _ _ _ _ _ _ _ _ _ _ (by first | assumption | omega) (by first | assumption | exact fmod_lo _ (by decide) | omega) (by first | assumption | exact fmod_hi _ (by decide) | omega)) (by first | exact un3 (by assumption) (by exact rfl) | ktr_room) (by first | exact un3 (by assumption) (by exact rfl) | ktr_units) ?_; (dsimp only [RetPart]; intro a' ta' b' tb' c' h' tk' ha' hb' hb2' F' N'; (try dsimp only); (try k_fold)))))
  k_with "m call ref" => ((k_here; (with_reducible show wpAny _ _ (call (Value.ref 185) _) _ _ _); k_dflt (refine' use2 (by k_asm) (by k_asm) (by k_asm) (by exact news_one (by k_asm) (by k_mem)) (by k_asm) (by first | exact rfl | assumption) (sum_ok _ _ _ _ _ _ _ _ _ _ (by first | assumption | omega) (by first | assumption | exact fmod_lo _ (by decide) | omega) (by first | assumption | exact fmod_hi _ (by decide) | omega)) (by first | exact un3 (by assumption) (by exact rfl) | ktr_room) (by first | exact un3 (by assumption) (by exact rfl) | ktr_units) ?_; (dsimp only [RetPart]; intro a' ta' b' tb' c' h' tk' ha' hb' hb2' F' N'; (try dsimp only); (try k_fold)))))
  k_with "m call ref" => ((k_here; (with_reducible show wpAny _ _ (call (Value.ref 192) _) _ _ _); k_dflt (refine' use2 (by k_asm) (by k_asm) (by k_asm) (by exact news_one (by k_asm) (by k_mem)) (by k_asm) (by first | exact rfl | assumption) (whole_ok _ _ _ _ _ _ _ _ _ _ (by first | assumption | omega) (by first | assumption | exact fmod_lo _ (by decide) | omega) (by first | assumption | exact fmod_hi _ (by decide) | omega)) (by first | exact un3 (by assumption) (by exact rfl) | ktr_room) (by first | exact un3 (by assumption) (by exact rfl) | ktr_units) ?_; (dsimp only [RetPart]; intro a' ta' b' tb' c' h' tk' ha' hb' hb2' F' N'; (try dsimp only); (try k_fold)))))
  k_with "m call ref" => ((k_here; (with_reducible show wpAny _ _ (call (Value.ref 199) _) _ _ _); k_dflt (refine' use2 (by k_asm) (by k_asm) (by k_asm) (by exact news_one (by k_asm) (by k_mem)) (by k_asm) (by first | exact rfl | assumption) (text_ok _ _ _ _ _ _ _ _ _ _ (by first | assumption | omega) (by first | assumption | exact fmod_lo _ (by decide) | omega) (by first | assumption | exact fmod_hi _ (by decide) | omega)) (by first | exact un3 (by assumption) (by exact rfl) | ktr_room) (by first | exact un3 (by assumption) (by exact rfl) | ktr_units) ?_; (dsimp only [RetPart]; intro a' ta' b' tb' c' h' tk' ha' hb' hb2' F' N'; (try dsimp only); (try k_fold)))))
  k_with "m call ref" => ((k_here; (with_reducible show wpAny _ _ (call (Value.ref 143) _) _ _ _); k_dflt (refine' pool_ok _ _ _ _ _ _ _ (by assumption) _ _ _ _ _ _ _ _ _ _ _ _ _ _ _ _ _ (by k_asm) (by k_asm) (by k_asm) (by k_asm) (by first | exact rfl | assumption) (by assumption) (by first | exact un3 (by assumption) (by exact rfl) | ktr_room) (by first | exact un3 (by assumption) (by exact rfl) | ktr_units) ?_; (intro S' a' ta' b' tb' c' h' tk' ha' hb' hb2' F' N'; (try dsimp only); (try k_fold)))))
  k_go)
end
end Mine
theorem PySem.Challenge.cw_sm0077_01_holds : PySem.Challenge.rw_sm0077_01.Holds :=
  Mine.fin
