import PyProof.Rows.All
import Wide.All
import OpenK.AllK
import Wide.FinOn
import PySem.Challenge.RW_xm0682_01
set_option Elab.async false
section
open PySem PySem.W PySem.W.X PyProof.Rows
set_option maxRecDepth 100000
set_option maxHeartbeats 0
namespace Mine
local macro_rules | `(tactic| k_head) => `(tactic| z_head)
open_top keepK for PySem.Challenge.rw_xm0682_01
end Mine
end
namespace Mine
local macro_rules | `(tactic| walk_at $s:str) => `(tactic| k_extra $s)
local macro_rules | `(tactic| mul_fits) => `(tactic| k_extra "mul_fits")
local macro_rules | `(tactic| k_all) => `(tactic| k_extra "k_all")
local macro_rules | `(tactic| size_fits) => `(tactic| k_extra "size_fits")
local macro_rules | `(tactic| boot_by_name) => `(tactic| k_extra "boot")
local macro_rules | `(tactic| k_room) => `(tactic| k_extra "room")
section
open PySem PySem.W PySem.Spec PySem.Calls PyProof.Rows
/-- built-in names, by their signs' numbers -/
theorem bt_len : bootBuiltins ⟨⟨[108, 101, 110]⟩⟩ = some (.builtin "len") := by decide +kernel
theorem bt_max : bootBuiltins ⟨⟨[109, 97, 120]⟩⟩ = some (.builtin "max") := by decide +kernel
theorem bt_min : bootBuiltins ⟨⟨[109, 105, 110]⟩⟩ = some (.builtin "min") := by decide +kernel
theorem bt_abs : bootBuiltins ⟨⟨[97, 98, 115]⟩⟩ = some (.builtin "abs") := by decide +kernel
theorem bt_int : bootBuiltins ⟨⟨[105, 110, 116]⟩⟩ = some (.type "int") := by decide +kernel
theorem nm_append : (⟨⟨[97, 112, 112, 101, 110, 100]⟩⟩ : Str) = Str.ofString "append" := by decide +kernel
end
section
open PySem PySem.W PyProof.Rows

/-- 2 ^ 300 as a hidden name -/
@[irreducible] def big : Int := 2 ^ 300
theorem big_eq : big = 2 ^ 300 := by unfold big; rfl

structure BInv (one other l r f s : Int) : Prop where
  h1 : 1 ≤ one
  h2 : 1 ≤ other
  b1 : one < big
  b2 : other < big
  hl : 1 ≤ l
  hr : 0 ≤ r
  ll : l < big
  lr : r < big
  g : Int.gcd l r = Int.gcd one other
  cf : other ∣ f * one - l
  cs : other ∣ s * one - r
  sg : (0 ≤ f ∧ s ≤ 0) ∨ (f ≤ 0 ∧ 0 ≤ s)
  bd : s.natAbs * l.natAbs + f.natAbs * r.natAbs = other.natAbs
  bf : f.natAbs ≤ other.natAbs

theorem BInv.start {one other : Int} (h1 : 1 ≤ one) (h2 : 1 ≤ other) (b1 : one < big) (b2 : other < big) : BInv one other one other 1 0 := by
  refine ⟨h1, h2, b1, b2, h1, by omega, b1, b2, rfl, ?_, ?_, Or.inl ⟨by omega, by omega⟩, by simp, by omega⟩
  · rw [Int.one_mul, Int.sub_self]; exact Int.dvd_zero _
  · rw [Int.zero_mul, Int.zero_sub]; exact Int.dvd_neg.mpr (Int.dvd_refl _)

theorem fd_pos {l r : Int} (hl : 1 ≤ l) (hr : 1 ≤ r) : 0 ≤ l.fdiv r ∧ l.fdiv r ≤ l ∧ l - l.fdiv r * r = l % r ∧ 0 ≤ l % r ∧ l % r < r := by
  have h0 : l.fdiv r = l / r := Int.fdiv_eq_ediv_of_nonneg _ (by omega)
  rw [h0]
  have h1 := Int.emod_add_mul_ediv l r
  have h2 := Int.emod_nonneg l (show r ≠ 0 by omega)
  have h3 := Int.emod_lt_of_pos l (show 0 < r by omega)
  have h4 : 0 ≤ l / r := Int.ediv_nonneg (by omega) (by omega)
  have h5 : l / r ≤ l := Int.ediv_le_self _ (by omega)
  refine ⟨h4, h5, ?_, h2, h3⟩
  rw [Int.mul_comm (l / r) r]; omega

theorem BInv.step {one other l r f s : Int} (B : BInv one other l r f s) (hr0 : r ≠ 0) :
    BInv one other r (l - l.fdiv r * r) s (f - l.fdiv r * s) := by
  obtain ⟨h1, h2, b1, b2, hl, hr, ll, lr, g, cf, cs, sg, bd, bf⟩ := B
  have hr1 : 1 ≤ r := by omega
  obtain ⟨q0, q1, e, m0, m1⟩ := fd_pos hl hr1
  generalize hq : l.fdiv r = q at *
  have hs0 : (0 : Int) ≤ q * s ∨ q * s ≤ 0 := by omega
  have key : (f - q * s).natAbs = f.natAbs + q.natAbs * s.natAbs := by
    rcases sg with ⟨a, b⟩ | ⟨a, b⟩
    · have : q * s ≤ 0 := Int.mul_nonpos_of_nonneg_of_nonpos q0 b
      rw [← Int.natAbs_mul]; omega
    · have : 0 ≤ q * s := Int.mul_nonneg q0 b
      rw [← Int.natAbs_mul]; omega
  refine ⟨h1, h2, b1, b2, hr1, by omega, lr, by omega, ?_, cs, ?_, ?_, ?_, ?_⟩
  · rw [Int.gcd_sub_mul_right_right, Int.gcd_comm r l]; exact g
  · have : (f - q * s) * one - (l - q * r) = (f * one - l) - q * (s * one - r) := by
      rw [Int.sub_mul, Int.mul_sub, Int.mul_assoc]; omega
    rw [this]
    exact Int.dvd_sub cf (Int.dvd_trans cs (Int.dvd_mul_left _ _))
  · rcases sg with ⟨a, b⟩ | ⟨a, b⟩
    · right
      have : q * s ≤ 0 := Int.mul_nonpos_of_nonneg_of_nonpos q0 b
      exact ⟨b, by omega⟩
    · left
      have : 0 ≤ q * s := Int.mul_nonneg q0 b
      exact ⟨b, by omega⟩
  · rw [key, e]
    have hm : (l % r).natAbs + q.natAbs * r.natAbs = l.natAbs := by
      have : l % r + q * r = l := by omega
      have h6 : (0:Int) ≤ q * r := Int.mul_nonneg q0 hr
      rw [← Int.natAbs_mul]; omega
    rw [← bd, ← hm, Nat.add_mul, Nat.mul_add]
    have : q.natAbs * s.natAbs * r.natAbs = s.natAbs * (q.natAbs * r.natAbs) := by
      rw [Nat.mul_comm q.natAbs s.natAbs, Nat.mul_assoc]
    omega
  · have : s.natAbs * 1 ≤ s.natAbs * l.natAbs := Nat.mul_le_mul_left _ (by omega)
    have : 0 ≤ f.natAbs * r.natAbs := Nat.zero_le _
    omega

theorem BInv.less {one other l r f s : Int} (B : BInv one other l r f s) (hr0 : r ≠ 0) : (l - l.fdiv r * r).toNat < r.toNat := by
  obtain ⟨q0, q1, e, m0, m1⟩ := fd_pos B.hl (show 1 ≤ r by have := B.hr; omega)
  rw [e]; omega

theorem mulOk_of_abs {a b : Int} (ha : a.natAbs < 2 ^ 300) (hb : b.natAbs < 2 ^ 300) : IntMulOk a b :=
  mulOk_of_bits (intBits_le ha) (intBits_le hb) (by decide)

theorem lt_big {a : Int} (h0 : 0 ≤ a) (h : a < big) : a.natAbs < 2 ^ 300 := by
  rw [big_eq] at h
  have : ((2 : Int) ^ 300) = ((2 ^ 300 : Nat) : Int) := by norm_cast
  rw [this] at h
  generalize (2 ^ 300 : Nat) = N at *
  omega

theorem BInv.bs {one other l r f s : Int} (B : BInv one other l r f s) : s.natAbs ≤ other.natAbs := by
  have h : s.natAbs * 1 ≤ s.natAbs * l.natAbs := Nat.mul_le_mul_left _ (by have := B.hl; omega)
  have h2 := B.bd
  have h3 : 0 ≤ f.natAbs * r.natAbs := Nat.zero_le _
  omega

theorem BInv.mulR {one other l r f s : Int} (B : BInv one other l r f s) (hr0 : r ≠ 0) : IntMulOk (l.fdiv r) r := by
  obtain ⟨q0, q1, _⟩ := fd_pos B.hl (show 1 ≤ r by have := B.hr; omega)
  exact mulOk_of_abs (lt_big q0 (by have := B.ll; omega)) (lt_big B.hr B.lr)
theorem BInv.mulS {one other l r f s : Int} (B : BInv one other l r f s) (hr0 : r ≠ 0) : IntMulOk (l.fdiv r) s := by
  obtain ⟨q0, q1, _⟩ := fd_pos B.hl (show 1 ≤ r by have := B.hr; omega)
  exact mulOk_of_abs (lt_big q0 (by have := B.ll; omega)) (Nat.lt_of_le_of_lt B.bs (lt_big (by have := B.h2; omega) B.b2))
theorem BInv.mulE {one other l r f s : Int} (B : BInv one other l r f s) : IntMulOk f one :=
  mulOk_of_abs (Nat.lt_of_le_of_lt B.bf (lt_big (by have := B.h2; omega) B.b2)) (lt_big (by have := B.h1; omega) B.b1)

theorem nopy_big {x y : Int} (h0 : 0 ≤ y) (h : y < big) : Builtin.divisionGoesByPylong x y = false := by
  refine PyProof.noPylong_of_log2 ?_
  have := lt_big h0 h
  by_cases hz : y.natAbs = 0
  · rw [hz]; decide
  · have := (Nat.log2_lt hz).mpr this
    omega
theorem BInv.nopyR {one other l r f s x : Int} (B : BInv one other l r f s) : Builtin.divisionGoesByPylong x r = false := nopy_big B.hr B.lr
theorem BInv.nopyO {one other l r f s x : Int} (B : BInv one other l r f s) : Builtin.divisionGoesByPylong x other = false := nopy_big (by have := B.h2; omega) B.b2
theorem BInv.neO {one other l r f s : Int} (B : BInv one other l r f s) : other ≠ 0 := by have := B.h2; omega
theorem BInv.told {one other l r f s : Int} (B : BInv one other l r f s) (hr0 : r = 0) : l = (Int.gcd one other : Int) := by
  have := B.g
  rw [hr0, Int.gcd_zero_right] at this
  have := B.hl
  omega
theorem BInv.good {one other l r f s : Int} (B : BInv one other l r f s) : (f * one - l).fmod other = 0 := by
  rw [Int.fmod_eq_emod_of_nonneg _ (by have := B.h2; omega)]
  exact Int.emod_eq_zero_of_dvd B.cf
end
section
open PySem PySem.W PySem.Spec PySem.Calls PyProof.Rows
set_option maxRecDepth 100000
set_option maxHeartbeats 8000000

theorem told_tells {w : World} {p : Program} {loose : List Str} {mean : ExcName → Option Value} {mg mb : Str → Option Value}
    (one other most : Int) (t1 t2 t3 : Tok) (h1 : 1 ≤ one) (h2 : 1 ≤ other) (b1 : one < big) (b2 : other < big) (hm : most = (Int.gcd one other : Int))
    (cn : Str) (cs : Scope) (a : Addr) (ccd : Value) (cl : List (Str × Addr)) (base h₀ : Heap) (L : Addr) (m : Str → Option Value) (news : List (Addr × Obj)) (s : Shared) (Q E : Value → Shared → Prop)
    (B : Below callerA base [] h₀) (F : Fr h₀ L s.heap m) (X : (Mine.keepK.heap_208 w.params).In h₀) (N : News h₀ L s.heap news) (T : Top p loose mean mg mb h₀) (hk : cs.kind = .function)
    (hret : ∀ (t : Tok) (h' : Heap) (tk' : Nat), Fr h₀ L h' m → News h₀ L h' news → Q (.bool true) { s with heap := h', toks := tk' }) :
    wpAny (model Challenge.rw_xm0682_01.row.prog w) (callerA.deeper (envX cn cs L a ccd cl)) (call (.ref 173) [.int one t1, .int other t2, .int most t3]) Q E s := by
  revert X
  k_fill
  intro X
  k_with_none
  w_top off
  k_with "mul_fits" => first | exact BInv.mulR (by assumption) (by assumption) | exact BInv.mulS (by assumption) (by assumption) | exact BInv.mulE (by assumption)
  k_with "binaryOp FloorDiv int int" => (k_here; with_reducible refine floordiv_int (by assumption) ?_ (Or.inl (BInv.nopyR (by assumption))))
  k_with "binaryOp Mod int int" => (k_here; with_reducible refine mod_int' (BInv.neO (by assumption)) ?_ (Or.inl (BInv.nopyO (by assumption))))
  k_with "exec While Compare cons nil" => k_while (fun _ l r f s => BInv one other l r f s) (fun _ _ r _ _ => r.toNat) "left" "right" "first" "second"
  k_with "state" => first | exact BInv.start h1 h2 b1 b2 | exact BInv.step (by assumption) (by assumption)
  k_with "measure" => exact BInv.less (by assumption) (by assumption)
  refine wpAny_call ?_
  k_dflt cell_enter
  k_steps
  all_goals (refine cb_retB (Q := Q) (x := true) hret ?_ (by assumption) (cb_drop (by assumption) (fun p hp => List.mem_cons_of_mem _ (List.mem_cons_of_mem _ hp))))
  all_goals first
    | exact beq_iff_eq.mpr (BInv.good (by assumption))
    | exact absurd ((BInv.told (by assumption) (by assumption)).trans hm.symm) (by assumption)
end
section
open PySem PySem.W PySem.Spec PySem.Calls PyProof.Rows
set_option maxRecDepth 100000
set_option maxHeartbeats 8000000

theorem fm_in (z : Int) {top : Int} (h : 1 ≤ top) : 0 ≤ z.fmod top ∧ z.fmod top < top := by
  rw [Int.fmod_eq_emod_of_nonneg _ (by omega)]
  exact ⟨Int.emod_nonneg _ (by omega), Int.emod_lt_of_pos _ (by omega)⟩
theorem fd_in {z top : Int} (h0 : 0 ≤ z) (h : 1 ≤ top) : 0 ≤ z.fdiv top := by
  rw [Int.fdiv_eq_ediv_of_nonneg _ (by omega)]
  exact Int.ediv_nonneg h0 (by omega)
theorem take_mul {x z : Int} : IntMulOk ([x, z.fmod 2147483647].getD (Int.toNat 1) 0) ([x, z.fmod 2147483647].getD (Int.toNat 1) 0) := by
  show IntMulOk (z.fmod 2147483647) (z.fmod 2147483647)
  have h : z.fmod 2147483647 = z % 2147483647 := Int.fmod_eq_emod_of_nonneg _ (by omega)
  rw [h]
  exact .of_left (intBits_le_64 (by omega) (by omega))
theorem take_tells {w : World} {p : Program} {loose : List Str} {mean : ExcName → Option Value} {mg mb : Str → Option Value}
    (x y top : Int) (tx ty tt : Tok) (c : Nat) (src : Addr) (rest : List (Addr × Obj)) (hx : 0 ≤ x) (hy : 0 ≤ y) (hy2 : y < 2147483647) (ht : 1 ≤ top) (ht2 : top < big) (hne : ∀ p ∈ rest, p.1 ≠ src)
    (cn : Str) (cs : Scope) (a : Addr) (ccd : Value) (cl : List (Str × Addr)) (base h₀ : Heap) (L : Addr) (m : Str → Option Value) (s : Shared) (Q E : Value → Shared → Prop)
    (B : Below callerA base [] h₀) (F : Fr h₀ L s.heap m) (X : (Mine.keepK.heap_208 w.params).In h₀) (N : News h₀ L s.heap ((src, listOf #[.int x tx, .int y ty] c) :: rest)) (T : Top p loose mean mg mb h₀) (hk : cs.kind = .function)
    (hret : ∀ (v x' y' : Int) (t tx' ty' : Tok) (c' : Nat) (h' : Heap) (tk' : Nat), 0 ≤ v → v < top → 0 ≤ x' → 0 ≤ y' → y' < 2147483647 → Fr h₀ L h' m → News h₀ L h' ((src, listOf #[.int x' tx', .int y' ty'] c') :: rest) → Q (.int v t) { s with heap := h', toks := tk' }) :
    wpAny (model Challenge.rw_xm0682_01.row.prog w) (callerA.deeper (envX cn cs L a ccd cl)) (call (.ref 145) [.ref src, .int top tt]) Q E s := by
  revert X
  k_fill
  intro X
  k_with_none
  w_top off
  k_with "k_all" => assumption
  k_with "mul_fits" => exact take_mul
  k_with "binaryOp FloorDiv int int" => (k_here; with_reducible refine floordiv_int (by omega) ?_ (Or.inl (nopy_big (by omega) (by assumption))))
  refine wpAny_call ?_
  k_dflt cell_enter
  k_steps
  all_goals (refine hret _ _ _ _ _ _ _ _ _ ?_ ?_ ?_ ?_ ?_ (by assumption) (by assumption))
  all_goals first
    | exact (fm_in _ ht).1
    | exact (fm_in _ ht).2
    | exact fd_in hx ht
    | exact hx
    | exact hy
    | exact hy2
    | exact (fm_in _ (by omega)).1
    | exact (fm_in _ (by omega)).2
end
section
open PySem PySem.W PySem.Spec PySem.Calls PyProof.Rows
set_option maxRecDepth 100000
set_option maxHeartbeats 8000000

theorem pick2 (z : Int) : [(1 : Int), -1].getD (z.fmod 2).toNat 0 = 1 ∨ [(1 : Int), -1].getD (z.fmod 2).toNat 0 = -1 := by
  have h := fm_in z (show (1 : Int) ≤ 2 by omega)
  have : (z.fmod 2).toNat = 0 ∨ (z.fmod 2).toNat = 1 := by omega
  rcases this with e | e <;> rw [e]
  · exact Or.inl rfl
  · exact Or.inr rfl
theorem one_tells {w : World} {p : Program} {loose : List Str} {mean : ExcName → Option Value} {mg mb : Str → Option Value}
    (x y : Int) (tx ty t1 t2 : Tok) (c c2 : Nat) (src th : Addr) (rest : List (Addr × Obj)) (hx : 0 ≤ x) (hy : 0 ≤ y) (hy2 : y < 2147483647) (hne : ∀ p ∈ rest, p.1 ≠ src)
    (hth : th ≠ src)
    (cn : Str) (cs : Scope) (a : Addr) (ccd : Value) (cl : List (Str × Addr)) (base h₀ : Heap) (L : Addr) (m : Str → Option Value) (s : Shared) (Q E : Value → Shared → Prop)
    (B : Below callerA base [] h₀) (F : Fr h₀ L s.heap m) (X : (Mine.keepK.heap_208 w.params).In h₀) (N : News h₀ L s.heap ((src, listOf #[.int x tx, .int y ty] c) :: (th, listOf #[.int 1 t1, .int (-1) t2] c2) :: rest)) (T : Top p loose mean mg mb h₀) (hk : cs.kind = .function)
    (hret : ∀ (v x' y' : Int) (t tx' ty' : Tok) (c' : Nat) (h' : Heap) (tk' : Nat), (v = 1 ∨ v = -1) → 0 ≤ x' → 0 ≤ y' → y' < 2147483647 → Fr h₀ L h' m → News h₀ L h' ((src, listOf #[.int x' tx', .int y' ty'] c') :: (th, listOf #[.int 1 t1, .int (-1) t2] c2) :: rest) → Q (.int v t) { s with heap := h', toks := tk' }) :
    wpAny (model Challenge.rw_xm0682_01.row.prog w) (callerA.deeper (envX cn cs L a ccd cl)) (call (.ref 152) [.ref src, .ref th]) Q E s := by
  revert X
  k_fill
  intro X
  k_with_none
  w_top off
  k_with "boot" => first | exact bt_len | exact bt_max | exact bt_min | exact bt_abs | exact bt_int
  k_with "k_all" => first | assumption | exact List.forall_mem_cons.mpr ⟨by assumption, by assumption⟩
  k_with "mul_fits" => exact take_mul
  refine wpAny_call ?_
  k_dflt cell_enter
  k_steps
  all_goals (refine hret _ _ _ _ _ _ _ _ _ ?_ ?_ ?_ ?_ (by assumption) (by assumption))
  all_goals first
    | exact pick2 _
    | exact fd_in hx (by omega)
    | exact hx
    | exact hy
    | exact hy2
    | exact (fm_in _ (by omega)).1
    | exact (fm_in _ (by omega)).2
end
section
open PySem PySem.W PySem.Spec PySem.Calls PyProof.Rows
set_option maxRecDepth 100000
set_option maxHeartbeats 8000000

theorem pool_pos (z k : Int) (P : Prop) [Decidable P] : 0 ≤ (if z < k then k else z) ∨ True := Or.inr trivial
theorem pool_pos1 (z : Int) (b : Bool) : 0 ≤ (if z < -1 - z then -1 - z else z) * (if b = true then 1 else 0) := by
  refine Int.mul_nonneg ?_ ?_ <;> split <;> omega
theorem pool_tells {w : World} {p : Program} {loose : List Str} {mean : ExcName → Option Value} {mg mb : Str → Option Value}
    (sl : Addr) (vs : List Value) (ns : List Int)
    (cn : Str) (cs : Scope) (a : Addr) (ccd : Value) (cl : List (Str × Addr)) (base h₀ : Heap) (L : Addr) (m : Str → Option Value) (news : List (Addr × Obj)) (s : Shared) (Q E : Value → Shared → Prop)
    (hl : base.IsList sl vs.toArray) (hi : IntsAre vs ns) (hn : ns.length < 2 ^ 62)
    (B : Below callerA base [] h₀) (F : Fr h₀ L s.heap m) (X : (Mine.keepK.heap_208 w.params).In h₀) (N : News h₀ L s.heap news) (T : Top p loose mean mg mb h₀) (hk : cs.kind = .function)
    (hret : ∀ (x y : Int) (tx ty : Tok) (c : Nat) (D : Addr) (h' : Heap) (tk' : Nat), 0 ≤ x → 0 ≤ y → y < 2147483647 → (∀ p ∈ news, p.1 < D) → Fr h₀ L h' m → News h₀ L h' ((D, listOf #[.int x tx, .int y ty] c) :: news) → Q (.ref D) { s with heap := h', toks := tk' }) :
    wpAny (model Challenge.rw_xm0682_01.row.prog w) (callerA.deeper (envX cn cs L a ccd cl)) (call (.ref 138) [.ref sl]) Q E s := by
  revert X
  k_fill
  intro X
  k_with_none
  w_top off
  k_with "boot" => first | exact bt_len | exact bt_max | exact bt_min | exact bt_abs | exact bt_int
  refine wpAny_call ?_
  k_dflt cell_enter
  k_steps
  all_goals (refine hret _ _ _ _ _ _ _ _ ?_ ?_ ?_ (by assumption) (by assumption) (by assumption))
  all_goals first
    | exact (fm_in _ (by omega)).1
    | exact (fm_in _ (by omega)).2
    | exact pool_pos1 _ _
    | trace_state
end
section
open PySem PySem.W PySem.Spec PySem.Calls PyProof.Rows
set_option maxRecDepth 100000
set_option maxHeartbeats 8000000
/-- the first k numbers of a range -/
def nums (first step : Int) (k : Nat) : List Int := (List.range k).map fun (i : Nat) => first + (i : Int) * step
structure NInv (first step last number : Int) (found : List Int) : Prop where
  k : ∃ k : Nat, found = nums first step k ∧ number = first + (k : Int) * step ∧ found.length ≤ 2001 ∧ (k ≠ 0 → (0 < step → first + ((k : Int) - 1) * step ≤ last) ∧ (step < 0 → last ≤ first + ((k : Int) - 1) * step))
theorem NInv.len {first step last number : Int} {found : List Int} (I : NInv first step last number found) : found.length ≤ 2001 := by
  obtain ⟨k, _, _, h, _⟩ := I.k; exact h
theorem nums_zero (first step : Int) : nums first step 0 = [] := rfl
theorem nums_succ (first step : Int) (k : Nat) : nums first step (k + 1) = nums first step k ++ [first + (k : Int) * step] := by
  unfold nums
  rw [List.range_succ, List.map_append]
  rfl
theorem nums_len (first step : Int) (k : Nat) : (nums first step k).length = k := by unfold nums; simp
theorem NInv.start (first step last : Int) : NInv first step last first [] := ⟨0, rfl, by simp, by simp, by simp⟩
theorem NInv.up {first step last number : Int} {found : List Int} (I : NInv first step last number found) (hs : 0 < step) (hs2 : step ≤ 7) (hf : -1000 ≤ first) (hl2 : last ≤ 1000) (h : number ≤ last) :
    NInv first step last (number + step) (found ++ [number]) := by
  obtain ⟨k, e1, e2, e3, e4⟩ := I.k
  have hk : (k : Int) * 1 ≤ (k : Int) * step := Int.mul_le_mul_of_nonneg_left (by omega) (by omega)
  refine ⟨k + 1, ?_, ?_, ?_, fun _ => ⟨fun _ => ?_, fun h => by omega⟩⟩
  · rw [nums_succ, e1, e2]
  · rw [e2, Int.natCast_succ, Int.add_mul]; omega
  · rw [e1, List.length_append, nums_len, List.length_singleton]; omega
  · have : ((k + 1 : Nat) : Int) - 1 = (k : Int) := by omega
    rw [this]; omega
theorem NInv.dn {first step last number : Int} {found : List Int} (I : NInv first step last number found) (hs : step < 0) (hs2 : -7 ≤ step) (hf2 : first ≤ 1000) (hl : -1000 ≤ last) (h : last ≤ number) :
    NInv first step last (number + step) (found ++ [number]) := by
  obtain ⟨k, e1, e2, e3, e4⟩ := I.k
  have hk : (k : Int) * step ≤ (k : Int) * (-1) := Int.mul_le_mul_of_nonneg_left (by omega) (by omega)
  refine ⟨k + 1, ?_, ?_, ?_, fun _ => ⟨fun h => by omega, fun _ => ?_⟩⟩
  · rw [nums_succ, e1, e2]
  · rw [e2, Int.natCast_succ, Int.add_mul]; omega
  · rw [e1, List.length_append, nums_len, List.length_singleton]; omega
  · have : ((k + 1 : Nat) : Int) - 1 = (k : Int) := by omega
    rw [this]; omega
/-- what the numbers of a range are, told of their count -/
structure UpTo (first step last : Int) (k : Nat) : Prop where
  le : k ≤ 2001
  lastmet : k ≠ 0 → (0 < step → first + ((k : Int) - 1) * step ≤ last) ∧ (step < 0 → last ≤ first + ((k : Int) - 1) * step)
  up : 0 < step → last < first + (k : Int) * step
  dn : step < 0 → first + (k : Int) * step < last
theorem NInv.end_up {first step last number : Int} {found : List Int} (I : NInv first step last number found) (hs : 0 < step) (h : ¬ number ≤ last) : ∃ k, found = nums first step k ∧ UpTo first step last k := by
  obtain ⟨k, e1, e2, e3, e4⟩ := I.k
  exact ⟨k, e1, by rw [e1, nums_len] at e3; exact e3, e4, fun _ => by omega, fun h => by omega⟩
theorem NInv.end_dn {first step last number : Int} {found : List Int} (I : NInv first step last number found) (hs : step < 0) (h : ¬ last ≤ number) : ∃ k, found = nums first step k ∧ UpTo first step last k := by
  obtain ⟨k, e1, e2, e3, e4⟩ := I.k
  exact ⟨k, e1, by rw [e1, nums_len] at e3; exact e3, e4, fun h => by omega, fun _ => by omega⟩
theorem nums_up {w : World} {p : Program} {loose : List Str} {mean : ExcName → Option Value} {mg mb : Str → Option Value}
    (first step last : Int) (t1 t2 t3 : Tok) (c : Nat) (row : Addr) (news : List (Addr × Obj)) (hrow : (row, ({ cls := .type "tuple", data := .seq #[.int first t1, .int step t2, .int last t3] c } : Obj)) ∈ news) (hs : 0 < step) (hs2 : step ≤ 7) (hf : -1000 ≤ first) (hf2 : first ≤ 1000) (hl : -1000 ≤ last) (hl2 : last ≤ 1000)
    (cn : Str) (cs : Scope) (a : Addr) (ccd : Value) (cl : List (Str × Addr)) (env₁ : Env) (base h₀ : Heap) (L : Addr) (m : Str → Option Value) (s : Shared) (Q E : Value → Shared → Prop)
    (B : Below (callerA.deeper env₁) base [env₁] h₀) (F : Fr h₀ L s.heap m) (X : (Mine.keepK.heap_208 w.params).In h₀) (N : News h₀ L s.heap news) (T : Top p loose mean mg mb h₀) (hk : cs.kind = .function)
    (hret : ∀ (k : Nat) (vs : List Value) (D : Addr) (c' : Nat) (h' : Heap) (tk' : Nat), IntsAre vs (nums first step k) → UpTo first step last k → (∀ p ∈ news, p.1 < D) → Fr h₀ L h' m → News h₀ L h' ((D, listOf vs.toArray c') :: news) → Q (.ref D) { s with heap := h', toks := tk' }) :
    wpAny (model Challenge.rw_xm0682_01.row.prog w) ((callerA.deeper env₁).deeper (envX cn cs L a ccd cl)) (call (.ref 159) [.ref row]) Q E s := by
  revert X
  k_fill
  intro X
  k_with_none
  w_top off
  k_with "size_fits" => ((have hz9 := NInv.len (by assumption)); (try simp only [List.size_toArray, PySem.sizeLine_eq]); omega)
  k_with "getMethod ref" => ((with_reducible show wpAny _ _ (getMethod (Value.ref _) ⟨⟨[97, 112, 112, 101, 110, 100]⟩⟩ _) _ _ _); k_dflt (rw [nm_append]))
  k_with "exec While IfExp cons nil" => k_while (fun _ number found => NInv first step last number found) (fun _ number _ => (last + 1 - number).toNat) "number" "found"
  k_with "state" => first | exact NInv.start first step last | exact NInv.up (by assumption) hs hs2 hf hl2 (by assumption)
  k_with "measure" => omega
  have hnil : IntsAre ([] : List Value) [] := IntsAre.nil
  refine wpAny_call ?_
  k_dflt cell_enter
  k_steps
  all_goals (
    obtain ⟨k9, e9, u9⟩ := NInv.end_up (by assumption) hs (by assumption)
    subst e9
    exact hret k9 _ _ _ _ _ (by assumption) u9 (by assumption) (by assumption) (cb_drop (by assumption) (fun p hp => List.mem_cons_of_mem _ hp)))
theorem nums_dn {w : World} {p : Program} {loose : List Str} {mean : ExcName → Option Value} {mg mb : Str → Option Value}
    (first step last : Int) (t1 t2 t3 : Tok) (c : Nat) (row : Addr) (news : List (Addr × Obj)) (hrow : (row, ({ cls := .type "tuple", data := .seq #[.int first t1, .int step t2, .int last t3] c } : Obj)) ∈ news) (hs : step < 0) (hs2 : -7 ≤ step) (hf : -1000 ≤ first) (hf2 : first ≤ 1000) (hl : -1000 ≤ last) (hl2 : last ≤ 1000)
    (cn : Str) (cs : Scope) (a : Addr) (ccd : Value) (cl : List (Str × Addr)) (env₁ : Env) (base h₀ : Heap) (L : Addr) (m : Str → Option Value) (s : Shared) (Q E : Value → Shared → Prop)
    (B : Below (callerA.deeper env₁) base [env₁] h₀) (F : Fr h₀ L s.heap m) (X : (Mine.keepK.heap_208 w.params).In h₀) (N : News h₀ L s.heap news) (T : Top p loose mean mg mb h₀) (hk : cs.kind = .function)
    (hret : ∀ (k : Nat) (vs : List Value) (D : Addr) (c' : Nat) (h' : Heap) (tk' : Nat), IntsAre vs (nums first step k) → UpTo first step last k → (∀ p ∈ news, p.1 < D) → Fr h₀ L h' m → News h₀ L h' ((D, listOf vs.toArray c') :: news) → Q (.ref D) { s with heap := h', toks := tk' }) :
    wpAny (model Challenge.rw_xm0682_01.row.prog w) ((callerA.deeper env₁).deeper (envX cn cs L a ccd cl)) (call (.ref 159) [.ref row]) Q E s := by
  revert X
  k_fill
  intro X
  k_with_none
  w_top off
  k_with "size_fits" => ((have hz9 := NInv.len (by assumption)); (try simp only [List.size_toArray, PySem.sizeLine_eq]); omega)
  k_with "getMethod ref" => ((with_reducible show wpAny _ _ (getMethod (Value.ref _) ⟨⟨[97, 112, 112, 101, 110, 100]⟩⟩ _) _ _ _); k_dflt (rw [nm_append]))
  k_with "exec While IfExp cons nil" => k_while (fun _ number found => NInv first step last number found) (fun _ number _ => (number + 1 - last).toNat) "number" "found"
  k_with "state" => first | exact NInv.start first step last | exact NInv.dn (by assumption) hs hs2 hf2 hl (by assumption)
  k_with "measure" => omega
  have hnil : IntsAre ([] : List Value) [] := IntsAre.nil
  refine wpAny_call ?_
  k_dflt cell_enter
  k_steps
  all_goals (
    obtain ⟨k9, e9, u9⟩ := NInv.end_dn (by assumption) hs (by assumption)
    subst e9
    exact hret k9 _ _ _ _ _ (by assumption) u9 (by assumption) (by assumption) (cb_drop (by assumption) (fun p hp => List.mem_cons_of_mem _ hp)))
end
section
open PySem PySem.W PySem.Spec PySem.Calls PyProof.Rows
/-- a list of ints with its least, its greatest and its last one -/
structure NumsAre (ns : List Int) (mn mx z : Int) : Prop where
  pos : 0 < ns.length
  mn1 : mn ∈ ns
  mn2 : ∀ a ∈ ns, mn ≤ a
  mx1 : mx ∈ ns
  mx2 : ∀ a ∈ ns, a ≤ mx
  last : ns[ns.length - 1]? = some z
theorem nums_mem {first step : Int} {k : Nat} {a : Int} : a ∈ nums first step k ↔ ∃ i : Nat, i < k ∧ first + (i : Int) * step = a := by
  unfold nums
  simp [List.mem_map, List.mem_range]
theorem nums_at {first step : Int} {k i : Nat} (h : i < k) : (nums first step k)[i]? = some (first + (i : Int) * step) := by
  unfold nums
  simp [h]
theorem nums_last {first step : Int} {j : Nat} : (nums first step (j + 1))[(nums first step (j + 1)).length - 1]? = some (first + (j : Int) * step) := by
  rw [nums_len]
  exact nums_at (by omega)
theorem fdiv_by {x q r step : Int} (hs : 0 < step) (h : x = q * step + r) (h0 : 0 ≤ r) (h1 : r < step) : x.fdiv step = q := by
  rw [Int.fdiv_eq_ediv_of_nonneg _ (by omega), h, Int.add_comm, Int.add_mul_ediv_right _ _ (by omega), Int.ediv_eq_zero_of_lt h0 h1]
  omega
structure UpFacts (first step last z : Int) : Prop where
  a : first ≤ last
  b : first ≤ z
  c : z ≤ last
  d : 0 ≤ (last - first).fdiv step
  e : first + ((last - first).fdiv step + 1 - 1) * step = z
theorem up_cases {first step last : Int} {k : Nat} (U : UpTo first step last k) (hs : 0 < step) : (k = 0 ∧ last < first) ∨ (∃ z, NumsAre (nums first step k) first z z ∧ UpFacts first step last z) := by
  cases k with
  | zero => left; have := U.up hs; exact ⟨rfl, by simpa using this⟩
  | succ j =>
    right
    have h1 := U.up hs
    have h2 := (U.lastmet (by omega)).1 hs
    have e1 : ((j + 1 : Nat) : Int) - 1 = (j : Int) := by omega
    rw [e1] at h2
    rw [Int.natCast_succ, Int.add_mul, Int.one_mul] at h1
    have hj : 0 ≤ (j : Int) * step := Int.mul_nonneg (by omega) (by omega)
    have hq : (last - first).fdiv step = (j : Int) := fdiv_by hs (r := last - first - (j : Int) * step) (by omega) (by omega) (by omega)
    refine ⟨first + (j : Int) * step, ⟨by rw [nums_len]; omega, nums_mem.mpr ⟨0, by omega, by simp⟩, fun a ha => ?_, nums_mem.mpr ⟨j, by omega, rfl⟩, fun a ha => ?_, nums_last⟩, by omega, by omega, by omega, by omega, ?_⟩
    · obtain ⟨i, _, rfl⟩ := nums_mem.mp ha
      have : 0 ≤ (i : Int) * step := Int.mul_nonneg (by omega) (by omega)
      omega
    · obtain ⟨i, hi, rfl⟩ := nums_mem.mp ha
      have : (i : Int) * step ≤ (j : Int) * step := Int.mul_le_mul_of_nonneg_right (by omega) (by omega)
      omega
    · rw [hq, Int.add_sub_cancel]
structure DnFacts (first step last z : Int) : Prop where
  a : last ≤ first
  b : z ≤ first
  c : last ≤ z
  d : 0 ≤ (first - last).fdiv (0 - step)
  e : first + ((first - last).fdiv (0 - step) + 1 - 1) * step = z
  d2 : 0 ≤ (first - z).fdiv (0 - step)
  e2 : first + ((first - z).fdiv (0 - step) + 1 - 1) * step = z
theorem dn_cases {first step last : Int} {k : Nat} (U : UpTo first step last k) (hs : step < 0) : (k = 0 ∧ first < last) ∨ (∃ z, NumsAre (nums first step k) z first z ∧ DnFacts first step last z) := by
  cases k with
  | zero => left; have := U.dn hs; exact ⟨rfl, by simpa using this⟩
  | succ j =>
    right
    have h1 := U.dn hs
    have h2 := (U.lastmet (by omega)).2 hs
    have e1 : ((j + 1 : Nat) : Int) - 1 = (j : Int) := by omega
    rw [e1] at h2
    rw [Int.natCast_succ, Int.add_mul, Int.one_mul] at h1
    have hneg : (j : Int) * (0 - step) = - ((j : Int) * step) := by rw [Int.zero_sub, Int.mul_neg]
    have hj : (j : Int) * step ≤ 0 := Int.mul_nonpos_of_nonneg_of_nonpos (by omega) (by omega)
    have hq : (first - last).fdiv (0 - step) = (j : Int) := fdiv_by (by omega) (r := first - last + (j : Int) * step) (by rw [hneg]; omega) (by omega) (by omega)
    have hq2 : (first - (first + (j : Int) * step)).fdiv (0 - step) = (j : Int) := fdiv_by (by omega) (r := 0) (by rw [hneg]; omega) (by omega) (by omega)
    refine ⟨first + (j : Int) * step, ⟨by rw [nums_len]; omega, nums_mem.mpr ⟨j, by omega, rfl⟩, fun a ha => ?_, nums_mem.mpr ⟨0, by omega, by simp⟩, fun a ha => ?_, nums_last⟩, by omega, by omega, by omega, by omega, ?_, by omega, ?_⟩
    · obtain ⟨i, hi, rfl⟩ := nums_mem.mp ha
      have : (j : Int) * step ≤ (i : Int) * step := Int.mul_le_mul_of_nonpos_right (by omega) (by omega)
      omega
    · obtain ⟨i, _, rfl⟩ := nums_mem.mp ha
      have : (i : Int) * step ≤ 0 := Int.mul_nonpos_of_nonneg_of_nonpos (by omega) (by omega)
      omega
    · rw [hq, Int.add_sub_cancel]
    · rw [hq2, Int.add_sub_cancel]
section
variable {prog : Program} {w : World} {A : Around} {E : Value → Shared → Prop} {s : Shared} {h₀ : Heap} {L l : Addr} {m : Str → Option Value} {news : List (Addr × Obj)} {vs : List Value} {ns : List Int} {Q : Value → Shared → Prop} {mn mx z : Int}
theorem my_min (P : NumsAre ns mn mx z) (F : Fr h₀ L s.heap m) (N : News h₀ L s.heap news) (hl : s.heap.IsList l vs.toArray) (hi : IntsAre vs ns) (hh : A.handled = none)
    (h : ∀ h' (t : Tok) tk, Fr h₀ L h' m → News h₀ L h' news → Q (.int mn t) { s with heap := h', toks := tk }) : wpAny (model prog w) A (call (.builtin "min") [.ref l]) Q E s :=
  kso_min F N hl hi P.pos hh fun h' M t tk F' N' a b => by
    obtain rfl : M = mn := Int.le_antisymm (b _ P.mn1) (P.mn2 _ a)
    exact h h' t tk F' N'
theorem my_max (P : NumsAre ns mn mx z) (F : Fr h₀ L s.heap m) (N : News h₀ L s.heap news) (hl : s.heap.IsList l vs.toArray) (hi : IntsAre vs ns) (hh : A.handled = none)
    (h : ∀ h' (t : Tok) tk, Fr h₀ L h' m → News h₀ L h' news → Q (.int mx t) { s with heap := h', toks := tk }) : wpAny (model prog w) A (call (.builtin "max") [.ref l]) Q E s :=
  kso_max F N hl hi P.pos hh fun h' M t tk F' N' a b => by
    obtain rfl : M = mx := Int.le_antisymm (P.mx2 _ a) (b _ P.mx1)
    exact h h' t tk F' N'
theorem my_last {value slice : PySem.Expr} {u : Tok} (P : NumsAre ns mn mx z) (hl : s.heap.IsList l vs.toArray) (hi : IntsAre vs ns) (h : ∀ t, Q (.int z t) s)
    (hs : subscripted slice false (.ref l) (.int (-1) u) = operate [.ref l, .int (-1) u] (getItem (.ref l) (.int (-1) u)) := by with_unfolding_all rfl) :
    wpAny (model prog w) A (subscriptTail value slice (.ref l) (.int (-1) u)) Q E s := by
  have hlen := IntsAre.length hi
  have hp := P.pos
  obtain ⟨t, ht⟩ := hi.get (ns.length - 1) z P.last
  exact kde_neg hl (by decide) (by decide) (seqIndex?_neg_one (by omega)) (by rw [hlen]; exact ht) (h t) hs
theorem my_ne_nil {b : Addr} (P : NumsAre ns mn mx z) (hl : s.heap.IsList l vs.toArray) (hi : IntsAre vs ns) (hl' : s.heap.IsList b ([] : List Value).toArray) (hu : A.units + 64 < cLine)
    (h : Q (.bool true) s) : wpAny (model prog w) A (compareOp .NotEq (.ref l) (.ref b)) Q E s :=
  ne_intsK hl hi hl' IntsAre.nil hu (by
    have : ns ≠ [] := fun e => by have := P.pos; rw [e] at this; exact absurd this (by decide)
    rw [decide_eq_false this]; exact h)
end
end
section
open PySem PySem.W PySem.Spec PySem.Calls PyProof.Rows
set_option maxRecDepth 100000
set_option maxHeartbeats 8000000
/-- what last_met tells -/
def Met (first step last z : Int) : Prop :=
  (0 < step ∧ last < first ∧ z = first - 1) ∨ (step < 0 ∧ first < last ∧ z = first + 1) ∨
  (0 < step ∧ first ≤ last ∧ 0 ≤ (last - first).fdiv step ∧ first + ((last - first).fdiv step + 1 - 1) * step = z) ∨
  (step < 0 ∧ last ≤ first ∧ 0 ≤ (first - last).fdiv (0 - step) ∧ first + ((first - last).fdiv (0 - step) + 1 - 1) * step = z)
theorem met_tells {w : World} {p : Program} {loose : List Str} {mean : ExcName → Option Value} {mg mb : Str → Option Value}
    (first step last z : Int) (t1 t2 t3 : Tok) (c : Nat) (row : Addr) (news : List (Addr × Obj)) (hrow : (row, ({ cls := .type "tuple", data := .seq #[.int first t1, .int step t2, .int last t3] c } : Obj)) ∈ news)
    (hM : Met first step last z) (hs1 : -7 ≤ step) (hs2 : step ≤ 7)
    (dp un : Nat) (gd : Option (List Code)) (cn : Str) (cs : Scope) (a : Addr) (ccd : Value) (cl : List (Str × Addr)) (outer : List Env) (A₀ : Around) (base h₀ : Heap) (L : Addr) (m : Str → Option Value) (s : Shared) (Q E : Value → Shared → Prop)
    (B : Below A₀ base outer h₀) (F : Fr h₀ L s.heap m) (X : (Mine.keepK.heap_208 w.params).In h₀) (N : News h₀ L s.heap news) (T : Top p loose mean mg mb h₀) (hk : cs.kind = .function) (hd : dp + 8 < recursionLimit)
    (hret : ∀ (t : Tok) (h' : Heap) (tk' : Nat), Fr h₀ L h' m → News h₀ L h' news → Q (.int z t) { s with heap := h', toks := tk' }) :
    wpAny (model Challenge.rw_xm0682_01.row.prog w) (ktrTop dp un gd cn cs L a ccd cl outer) (call (.ref 103) [.ref row]) Q E s := by
  revert X
  k_fill
  intro X
  k_with_none
  w_top off
  k_with "room" => ktr_room
  obtain ⟨hs, hc, rfl⟩ | ⟨hs, hc, rfl⟩ | ⟨hs, hc, hq, hz⟩ | ⟨hs, hc, hq, hz⟩ := hM
  all_goals (
    refine wpAny_call ?_
    k_dflt cell_enter
    k_steps)
  all_goals first
    | exact cb_retI (Q := Q) hret rfl (by assumption) (by assumption)
    | exact cb_retI (Q := Q) hret (by assumption) (by assumption) (by assumption)
    | (exfalso; omega)
end
section
open PySem PySem.W PySem.Spec PySem.Calls PyProof.Rows
section
variable {w : World} {p : Program} {loose : List Str} {mean : ExcName → Option Value} {mg mb : Str → Option Value} {cn : Str} {cs : Scope} {a : Addr} {ccd : Value} {cl : List (Str × Addr)} {base h₀ : Heap} {L : Addr} {m : Str → Option Value} {news : List (Addr × Obj)} {s : Shared} {Q E : Value → Shared → Prop}
theorem up_line {env₁ : Env} {first step last : Int} {t1 t2 t3 : Tok} {c : Nat} {row : Addr} (B : Below (callerA.deeper env₁) base [env₁] h₀) (F : Fr h₀ L s.heap m) (X : (Mine.keepK.heap_208 w.params).In h₀) (N : News h₀ L s.heap news) (T : Top p loose mean mg mb h₀) (hk : cs.kind = .function)
    (hrow : (row, ({ cls := .type "tuple", data := .seq #[.int first t1, .int step t2, .int last t3] c } : Obj)) ∈ news) (hs : 0 < step) (hs2 : step ≤ 7) (hf : -1000 ≤ first) (hf2 : first ≤ 1000) (hl : -1000 ≤ last) (hl2 : last ≤ 1000)
    (hret : ∀ (k : Nat) (vs : List Value) (D : Addr) (c' : Nat) (h' : Heap) (tk' : Nat), IntsAre vs (nums first step k) → UpTo first step last k → (∀ p ∈ news, p.1 < D) → Fr h₀ L h' m → News h₀ L h' ((D, listOf vs.toArray c') :: news) → Q (.ref D) { s with heap := h', toks := tk' }) :
    wpAny (model Challenge.rw_xm0682_01.row.prog w) ((callerA.deeper env₁).deeper (envX cn cs L a ccd cl)) (call (.ref 159) [.ref row]) Q E s :=
  nums_up first step last t1 t2 t3 c row news hrow hs hs2 hf hf2 hl hl2 cn cs a ccd cl env₁ base h₀ L m s Q E B F X N T hk hret
theorem dn_line {env₁ : Env} {first step last : Int} {t1 t2 t3 : Tok} {c : Nat} {row : Addr} (B : Below (callerA.deeper env₁) base [env₁] h₀) (F : Fr h₀ L s.heap m) (X : (Mine.keepK.heap_208 w.params).In h₀) (N : News h₀ L s.heap news) (T : Top p loose mean mg mb h₀) (hk : cs.kind = .function)
    (hrow : (row, ({ cls := .type "tuple", data := .seq #[.int first t1, .int step t2, .int last t3] c } : Obj)) ∈ news) (hs : step < 0) (hs2 : -7 ≤ step) (hf : -1000 ≤ first) (hf2 : first ≤ 1000) (hl : -1000 ≤ last) (hl2 : last ≤ 1000)
    (hret : ∀ (k : Nat) (vs : List Value) (D : Addr) (c' : Nat) (h' : Heap) (tk' : Nat), IntsAre vs (nums first step k) → UpTo first step last k → (∀ p ∈ news, p.1 < D) → Fr h₀ L h' m → News h₀ L h' ((D, listOf vs.toArray c') :: news) → Q (.ref D) { s with heap := h', toks := tk' }) :
    wpAny (model Challenge.rw_xm0682_01.row.prog w) ((callerA.deeper env₁).deeper (envX cn cs L a ccd cl)) (call (.ref 159) [.ref row]) Q E s :=
  nums_dn first step last t1 t2 t3 c row news hrow hs hs2 hf hf2 hl hl2 cn cs a ccd cl env₁ base h₀ L m s Q E B F X N T hk hret
theorem met_line {first step last z : Int} {t1 t2 t3 : Tok} {c : Nat} {row : Addr} {dp un : Nat} {gd : Option (List Code)} {outer : List Env} {A₀ : Around} (B : Below A₀ base outer h₀) (F : Fr h₀ L s.heap m) (X : (Mine.keepK.heap_208 w.params).In h₀) (N : News h₀ L s.heap news) (T : Top p loose mean mg mb h₀) (hk : cs.kind = .function) (hd : dp + 8 < recursionLimit)
    (hrow : (row, ({ cls := .type "tuple", data := .seq #[.int first t1, .int step t2, .int last t3] c } : Obj)) ∈ news) (hM : Met first step last z) (hs1 : -7 ≤ step) (hs2 : step ≤ 7)
    (hret : ∀ (t : Tok) (h' : Heap) (tk' : Nat), Fr h₀ L h' m → News h₀ L h' news → Q (.int z t) { s with heap := h', toks := tk' }) :
    wpAny (model Challenge.rw_xm0682_01.row.prog w) (ktrTop dp un gd cn cs L a ccd cl outer) (call (.ref 103) [.ref row]) Q E s :=
  met_tells first step last z t1 t2 t3 c row news hrow hM hs1 hs2 dp un gd cn cs a ccd cl outer A₀ base h₀ L m s Q E B F X N T hk hd hret
end
end
section
open PySem PySem.W PySem.Spec PySem.Calls PyProof.Rows
set_option maxRecDepth 100000
set_option maxHeartbeats 8000000
theorem up_met {first step last : Int} {k : Nat} (U : UpTo first step last k) (hs : 0 < step) : (k = 0 ∧ Met first step last (first - 1)) ∨ (∃ z, NumsAre (nums first step k) first z z ∧ Met first step last z) := by
  rcases up_cases U hs with ⟨h, h2⟩ | ⟨z, P, W⟩
  · exact .inl ⟨h, .inl ⟨hs, h2, rfl⟩⟩
  · exact .inr ⟨z, P, .inr (.inr (.inl ⟨hs, W.a, W.d, W.e⟩))⟩
theorem dn_met {first step last : Int} {k : Nat} (U : UpTo first step last k) (hs : step < 0) : (k = 0 ∧ Met first step last (first + 1)) ∨ (∃ z, NumsAre (nums first step k) z first z ∧ Met first step last z ∧ Met first step z z ∧ z ≤ first ∧ 0 ≤ (first - z).fdiv (0 - step)) := by
  rcases dn_cases U hs with ⟨h, h2⟩ | ⟨z, P, W⟩
  · exact .inl ⟨h, .inr (.inl ⟨hs, h2, rfl⟩)⟩
  · exact .inr ⟨z, P, .inr (.inr (.inr ⟨hs, W.a, W.d, W.e⟩)), .inr (.inr (.inr ⟨hs, W.b, W.d2, W.e2⟩)), W.b, W.d2⟩
theorem row_up {w : World} {p : Program} {loose : List Str} {mean : ExcName → Option Value} {mg mb : Str → Option Value}
    (first step last : Int) (t1 t2 t3 : Tok) (c : Nat) (row : Addr) (rest : List (Addr × Obj)) (hs : 0 < step) (hs2 : step ≤ 7) (hf : -1000 ≤ first) (hf2 : first ≤ 1000) (hl : -1000 ≤ last) (hl2 : last ≤ 1000)
    (cn : Str) (cs : Scope) (a : Addr) (ccd : Value) (cl : List (Str × Addr)) (base h₀ : Heap) (L : Addr) (m : Str → Option Value) (s : Shared) (Q E : Value → Shared → Prop)
    (B : Below callerA base [] h₀) (F : Fr h₀ L s.heap m) (X : (Mine.keepK.heap_208 w.params).In h₀) (N : News h₀ L s.heap ((row, ({ cls := .type "tuple", data := .seq #[.int first t1, .int step t2, .int last t3] c } : Obj)) :: rest)) (T : Top p loose mean mg mb h₀) (hk : cs.kind = .function)
    (hret : ∀ (t : Tok) (h' : Heap) (tk' : Nat), Fr h₀ L h' m → News h₀ L h' ((row, ({ cls := .type "tuple", data := .seq #[.int first t1, .int step t2, .int last t3] c } : Obj)) :: rest) → Q (.bool true) { s with heap := h', toks := tk' }) :
    wpAny (model Challenge.rw_xm0682_01.row.prog w) (callerA.deeper (envX cn cs L a ccd cl)) (call (.ref 166) [.ref row]) Q E s := by
  revert X
  k_fill
  intro X
  k_with_none
  w_top off
  k_with "boot" => first | exact bt_len | exact bt_max | exact bt_min | exact bt_abs | exact bt_int
  k_with "call ref" => (k_here; first | ((with_reducible show wpAny _ _ (call (Value.ref 159) [Value.ref _]) _ _ _); k_dflt (refine up_line (by k_asm) (by k_asm) (by k_asm) (by k_asm) (by k_asm) (by first | exact rfl | assumption) (by first | assumption | k_mem) (by omega) (by omega) (by omega) (by omega) (by omega) (by omega) ?_); intro k9 vs9 D9 c9 h9 tk9 I9 U9 l9 F9 N9; (try k_lt l9); (obtain ⟨e9, f9⟩ | ⟨z9, P9, W9⟩ := up_met U9 (by assumption)); (all_goals first | (subst e9; rw [nums_zero] at I9; cases I9) | skip); (all_goals (try dsimp only)); (all_goals (try k_fold))) | ((with_reducible show wpAny _ _ (call (Value.ref 103) [Value.ref _]) _ _ _); k_dflt (refine met_line (by k_asm) (by k_asm) (by k_asm) (by k_asm) (by k_asm) (by first | exact rfl | assumption) (by first | ktr_room | exact Nat.le_of_ble_eq_true rfl) (by first | assumption | k_mem) (by assumption) (by omega) (by omega) ?_); intro t9 h9 tk9 F9 N9; (try dsimp only); (try k_fold)))
  k_with "call builtin:min" => (k_here; (with_reducible show wpAny _ _ (call (Value.builtin _) [Value.ref _]) _ _ _); (with_unfolding_all refine my_min (by assumption) (by k_asm) (by k_asm) (by kso_list) (by l_ints) (by with_unfolding_all rfl) ?_); intro h9 t9 k9 F9 N9; (try k_sweep))
  k_with "call builtin:max" => (k_here; (with_reducible show wpAny _ _ (call (Value.builtin _) [Value.ref _]) _ _ _); (with_unfolding_all refine my_max (by assumption) (by k_asm) (by k_asm) (by kso_list) (by l_ints) (by with_unfolding_all rfl) ?_); intro h9 t9 k9 F9 N9; (try k_sweep))
  k_with "subscriptTail Name UnaryOp ref int" => (k_here; (with_reducible show wpAny _ _ (subscriptTail _ _ (Value.ref _) (Value.int _ _)) _ _ _); (with_unfolding_all refine my_last (by assumption) (by is_list) (by l_ints) ?_ (by with_unfolding_all rfl)); intro t9)
  k_with "compareOp NotEq ref ref" => (k_here; (with_reducible show wpAny _ _ (compareOp CmpOp.NotEq (Value.ref _) (Value.ref _)) _ _ _); (with_unfolding_all refine my_ne_nil (by assumption) (by is_list) (by l_ints) (by is_list) (by units_room) ?_))
  refine wpAny_call ?_
  k_dflt cell_enter
  k_steps
  all_goals first
    | (exfalso; omega)
    | (refine cb_retB (Q := Q) (x := true) hret ?_ (by assumption) (cb_drop (by assumption) ?_))
  all_goals first
    | exact rfl
    | (simp only [if_neg (show ¬ step < 0 by omega), beq_self_eq_true]; done)
    | (intro p hp; simp only [List.mem_cons] at hp ⊢; simp only [hp, or_true]; done)
    | (intro p hp; repeat (first | assumption | refine List.mem_cons_of_mem _ ?_))
end
section
open PySem PySem.W PySem.Spec PySem.Calls PyProof.Rows
set_option maxRecDepth 100000
set_option maxHeartbeats 8000000
theorem row_dn {w : World} {p : Program} {loose : List Str} {mean : ExcName → Option Value} {mg mb : Str → Option Value}
    (first step last : Int) (t1 t2 t3 : Tok) (c : Nat) (row : Addr) (rest : List (Addr × Obj)) (hs : step < 0) (hs2 : -7 ≤ step) (hf : -1000 ≤ first) (hf2 : first ≤ 1000) (hl : -1000 ≤ last) (hl2 : last ≤ 1000)
    (cn : Str) (cs : Scope) (a : Addr) (ccd : Value) (cl : List (Str × Addr)) (base h₀ : Heap) (L : Addr) (m : Str → Option Value) (s : Shared) (Q E : Value → Shared → Prop)
    (B : Below callerA base [] h₀) (F : Fr h₀ L s.heap m) (X : (Mine.keepK.heap_208 w.params).In h₀) (N : News h₀ L s.heap ((row, ({ cls := .type "tuple", data := .seq #[.int first t1, .int step t2, .int last t3] c } : Obj)) :: rest)) (T : Top p loose mean mg mb h₀) (hk : cs.kind = .function)
    (hret : ∀ (t : Tok) (h' : Heap) (tk' : Nat), Fr h₀ L h' m → News h₀ L h' ((row, ({ cls := .type "tuple", data := .seq #[.int first t1, .int step t2, .int last t3] c } : Obj)) :: rest) → Q (.bool true) { s with heap := h', toks := tk' }) :
    wpAny (model Challenge.rw_xm0682_01.row.prog w) (callerA.deeper (envX cn cs L a ccd cl)) (call (.ref 166) [.ref row]) Q E s := by
  revert X
  k_fill
  intro X
  k_with_none
  w_top off
  k_with "boot" => first | exact bt_len | exact bt_max | exact bt_min | exact bt_abs | exact bt_int
  k_with "call ref" => (k_here; first | ((with_reducible show wpAny _ _ (call (Value.ref 159) [Value.ref _]) _ _ _); k_dflt (refine dn_line (by k_asm) (by k_asm) (by k_asm) (by k_asm) (by k_asm) (by first | exact rfl | assumption) (by first | assumption | k_mem) (by omega) (by omega) (by omega) (by omega) (by omega) (by omega) ?_); intro k9 vs9 D9 c9 h9 tk9 I9 U9 l9 F9 N9; (try k_lt l9); (obtain ⟨e9, f9⟩ | ⟨z9, P9, W9, V9, f8, f7⟩ := dn_met U9 (by assumption)); (all_goals first | (subst e9; rw [nums_zero] at I9; cases I9) | skip); (all_goals (try dsimp only)); (all_goals (try k_fold))) | ((with_reducible show wpAny _ _ (call (Value.ref 103) [Value.ref _]) _ _ _); k_dflt (refine met_line (by k_asm) (by k_asm) (by k_asm) (by k_asm) (by k_asm) (by first | exact rfl | assumption) (by first | ktr_room | exact Nat.le_of_ble_eq_true rfl) (by first | assumption | k_mem) (by assumption) (by omega) (by omega) ?_); intro t9 h9 tk9 F9 N9; (try dsimp only); (try k_fold)))
  k_with "call builtin:min" => (k_here; (with_reducible show wpAny _ _ (call (Value.builtin _) [Value.ref _]) _ _ _); (with_unfolding_all refine my_min (by assumption) (by k_asm) (by k_asm) (by kso_list) (by l_ints) (by with_unfolding_all rfl) ?_); intro h9 t9 k9 F9 N9; (try k_sweep))
  k_with "call builtin:max" => (k_here; (with_reducible show wpAny _ _ (call (Value.builtin _) [Value.ref _]) _ _ _); (with_unfolding_all refine my_max (by assumption) (by k_asm) (by k_asm) (by kso_list) (by l_ints) (by with_unfolding_all rfl) ?_); intro h9 t9 k9 F9 N9; (try k_sweep))
  k_with "subscriptTail Name UnaryOp ref int" => (k_here; (with_reducible show wpAny _ _ (subscriptTail _ _ (Value.ref _) (Value.int _ _)) _ _ _); (with_unfolding_all refine my_last (by assumption) (by is_list) (by l_ints) ?_ (by with_unfolding_all rfl)); intro t9)
  k_with "compareOp NotEq ref ref" => (k_here; (with_reducible show wpAny _ _ (compareOp CmpOp.NotEq (Value.ref _) (Value.ref _)) _ _ _); (with_unfolding_all refine my_ne_nil (by assumption) (by is_list) (by l_ints) (by is_list) (by units_room) ?_))
  refine wpAny_call ?_
  k_dflt cell_enter
  k_steps
  all_goals first
    | (exfalso; omega)
    | (refine cb_retB (Q := Q) (x := true) hret ?_ (by assumption) (cb_drop (by assumption) ?_))
  all_goals first
    | exact rfl
    | (simp only [if_pos (show step < 0 by omega), Int.zero_sub, beq_self_eq_true]; done)
    | (intro p hp; simp only [List.mem_cons] at hp ⊢; simp only [hp, or_true]; done)
    | (intro p hp; repeat (first | assumption | refine List.mem_cons_of_mem _ ?_))
end
section
open PySem PySem.W PySem.Spec PySem.Calls PyProof.Rows
section
variable {w : World} {p : Program} {loose : List Str} {mean : ExcName → Option Value} {mg mb : Str → Option Value} {cn : Str} {cs : Scope} {a : Addr} {ccd : Value} {cl : List (Str × Addr)} {base h₀ : Heap} {L : Addr} {m : Str → Option Value} {s : Shared} {Q E : Value → Shared → Prop}
theorem rowup_line {first step last : Int} {t1 t2 t3 : Tok} {c : Nat} {row : Addr} {rest : List (Addr × Obj)} (B : Below callerA base [] h₀) (F : Fr h₀ L s.heap m) (X : (Mine.keepK.heap_208 w.params).In h₀)
    (N : News h₀ L s.heap ((row, ({ cls := .type "tuple", data := .seq #[.int first t1, .int step t2, .int last t3] c } : Obj)) :: rest)) (T : Top p loose mean mg mb h₀) (hk : cs.kind = .function) (hs : 0 < step) (hs2 : step ≤ 7) (hf : -1000 ≤ first) (hf2 : first ≤ 1000) (hl : -1000 ≤ last) (hl2 : last ≤ 1000)
    (hret : ∀ (t : Tok) (h' : Heap) (tk' : Nat), Fr h₀ L h' m → News h₀ L h' ((row, ({ cls := .type "tuple", data := .seq #[.int first t1, .int step t2, .int last t3] c } : Obj)) :: rest) → Q (.bool true) { s with heap := h', toks := tk' }) :
    wpAny (model Challenge.rw_xm0682_01.row.prog w) (callerA.deeper (envX cn cs L a ccd cl)) (call (.ref 166) [.ref row]) Q E s :=
  row_up first step last t1 t2 t3 c row rest hs hs2 hf hf2 hl hl2 cn cs a ccd cl base h₀ L m s Q E B F X N T hk hret
theorem rowdn_line {first step last : Int} {t1 t2 t3 : Tok} {c : Nat} {row : Addr} {rest : List (Addr × Obj)} (B : Below callerA base [] h₀) (F : Fr h₀ L s.heap m) (X : (Mine.keepK.heap_208 w.params).In h₀)
    (N : News h₀ L s.heap ((row, ({ cls := .type "tuple", data := .seq #[.int first t1, .int step t2, .int last t3] c } : Obj)) :: rest)) (T : Top p loose mean mg mb h₀) (hk : cs.kind = .function) (hs : step < 0) (hs2 : -7 ≤ step) (hf : -1000 ≤ first) (hf2 : first ≤ 1000) (hl : -1000 ≤ last) (hl2 : last ≤ 1000)
    (hret : ∀ (t : Tok) (h' : Heap) (tk' : Nat), Fr h₀ L h' m → News h₀ L h' ((row, ({ cls := .type "tuple", data := .seq #[.int first t1, .int step t2, .int last t3] c } : Obj)) :: rest) → Q (.bool true) { s with heap := h', toks := tk' }) :
    wpAny (model Challenge.rw_xm0682_01.row.prog w) (callerA.deeper (envX cn cs L a ccd cl)) (call (.ref 166) [.ref row]) Q E s :=
  row_dn first step last t1 t2 t3 c row rest hs hs2 hf hf2 hl hl2 cn cs a ccd cl base h₀ L m s Q E B F X N T hk hret
end
end
section
open PySem PySem.W PySem.Spec PySem.Calls PyProof.Rows
set_option maxRecDepth 100000
set_option maxHeartbeats 8000000
/-- an entry of the ledger brought ahead of it -/
theorem news_front {h₀ h : Heap} {L d : Addr} {o : Obj} {news : List (Addr × Obj)} (U : Upd d o o news news) (N : News h₀ L h news) :
    ∃ rest, News h₀ L h ((d, o) :: rest) ∧ (∀ p ∈ rest, p.1 ≠ d) ∧ (∀ p ∈ news, p.1 ≠ d → p ∈ rest) ∧
      ∀ o' h' news', Upd d o o' news news' → News h₀ L h' ((d, o') :: rest) → News h₀ L h' news' := by
  obtain ⟨pre, post, e1, e2, a, b⟩ := U.split
  refine ⟨pre ++ post, fun p hp => ?_, fun p hp => ?_, fun p hp hn => ?_, fun o' h' news' U' N' p hp => ?_⟩
  · rcases List.mem_cons.mp hp with rfl | hp
    · exact N _ (by rw [e1]; exact List.mem_append_right _ (List.mem_cons_self ..))
    · rcases List.mem_append.mp hp with hp | hp
      · exact N _ (by rw [e1]; exact List.mem_append_left _ hp)
      · exact N _ (by rw [e1]; exact List.mem_append_right _ (List.mem_cons_of_mem _ hp))
  · rcases List.mem_append.mp hp with hp | hp
    · exact a p hp
    · exact b p hp
  · rw [e1] at hp
    rcases List.mem_append.mp hp with hp | hp
    · exact List.mem_append_left _ hp
    · rcases List.mem_cons.mp hp with rfl | hp
      · exact absurd rfl hn
      · exact List.mem_append_right _ hp
  · obtain ⟨pre', post', f1, f2, a', b'⟩ := U'.split
    have old : ∀ q, q ∈ news → q.1 ≠ d → q ∈ pre ++ post := fun q hq hn => by
      rw [e1] at hq
      rcases List.mem_append.mp hq with hq | hq
      · exact List.mem_append_left _ hq
      · rcases List.mem_cons.mp hq with rfl | hq
        · exact absurd rfl hn
        · exact List.mem_append_right _ hq
    rw [f2] at hp
    rcases List.mem_append.mp hp with hp | hp
    · exact N' p (List.mem_cons_of_mem _ (old p (by rw [f1]; exact List.mem_append_left _ hp) (a' p hp)))
    · rcases List.mem_cons.mp hp with rfl | hp
      · exact N' _ (List.mem_cons_self ..)
      · exact N' p (List.mem_cons_of_mem _ (old p (by rw [f1]; exact List.mem_append_right _ (List.mem_cons_of_mem _ hp)) (b' p hp)))

theorem take_use {w : World} {p : Program} {loose : List Str} {mean : ExcName → Option Value} {mg mb : Str → Option Value}
    (x y top : Int) (tx ty tt : Tok) (c : Nat) (src : Addr) (news : List (Addr × Obj)) (hx : 0 ≤ x) (hy : 0 ≤ y) (hy2 : y < 2147483647) (ht : 1 ≤ top) (ht2 : top < big) (U : Upd src (listOf #[.int x tx, .int y ty] c) (listOf #[.int x tx, .int y ty] c) news news)
    (cn : Str) (cs : Scope) (a : Addr) (ccd : Value) (cl : List (Str × Addr)) (base h₀ : Heap) (L : Addr) (m : Str → Option Value) (s : Shared) (Q E : Value → Shared → Prop)
    (B : Below callerA base [] h₀) (F : Fr h₀ L s.heap m) (X : (Mine.keepK.heap_208 w.params).In h₀) (N : News h₀ L s.heap news) (T : Top p loose mean mg mb h₀) (hk : cs.kind = .function)
    (hret : ∀ (v x' y' : Int) (t tx' ty' : Tok) (c' : Nat) (h' : Heap) (tk' : Nat), 0 ≤ v → v < top → 0 ≤ x' → 0 ≤ y' → y' < 2147483647 → Fr h₀ L h' m → (∀ news', Upd src (listOf #[.int x tx, .int y ty] c) (listOf #[.int x' tx', .int y' ty'] c') news news' → News h₀ L h' news') → Q (.int v t) { s with heap := h', toks := tk' }) :
    wpAny (model Challenge.rw_xm0682_01.row.prog w) (callerA.deeper (envX cn cs L a ccd cl)) (call (.ref 145) [.ref src, .int top tt]) Q E s := by
  obtain ⟨rest, N', hne, _, back⟩ := news_front U N
  exact take_tells x y top tx ty tt c src rest hx hy hy2 ht ht2 hne cn cs a ccd cl base h₀ L m s Q E B F X N' T hk
    fun v x' y' t tx' ty' c' h' tk' h1 h2 h3 h4 h5 F' N'' => hret v x' y' t tx' ty' c' h' tk' h1 h2 h3 h4 h5 F' fun news' U' => back _ _ _ U' N''

theorem one_use {w : World} {p : Program} {loose : List Str} {mean : ExcName → Option Value} {mg mb : Str → Option Value}
    (x y : Int) (tx ty t1 t2 : Tok) (c c2 : Nat) (src th : Addr) (news : List (Addr × Obj)) (hx : 0 ≤ x) (hy : 0 ≤ y) (hy2 : y < 2147483647) (U : Upd src (listOf #[.int x tx, .int y ty] c) (listOf #[.int x tx, .int y ty] c) news news)
    (hth : th ≠ src) (hmem : (th, listOf #[.int 1 t1, .int (-1) t2] c2) ∈ news)
    (cn : Str) (cs : Scope) (a : Addr) (ccd : Value) (cl : List (Str × Addr)) (base h₀ : Heap) (L : Addr) (m : Str → Option Value) (s : Shared) (Q E : Value → Shared → Prop)
    (B : Below callerA base [] h₀) (F : Fr h₀ L s.heap m) (X : (Mine.keepK.heap_208 w.params).In h₀) (N : News h₀ L s.heap news) (T : Top p loose mean mg mb h₀) (hk : cs.kind = .function)
    (hret : ∀ (v x' y' : Int) (t tx' ty' : Tok) (c' : Nat) (h' : Heap) (tk' : Nat), (v = 1 ∨ v = -1) → 0 ≤ x' → 0 ≤ y' → y' < 2147483647 → Fr h₀ L h' m → (∀ news', Upd src (listOf #[.int x tx, .int y ty] c) (listOf #[.int x' tx', .int y' ty'] c') news news' → News h₀ L h' news') → Q (.int v t) { s with heap := h', toks := tk' }) :
    wpAny (model Challenge.rw_xm0682_01.row.prog w) (callerA.deeper (envX cn cs L a ccd cl)) (call (.ref 152) [.ref src, .ref th]) Q E s := by
  obtain ⟨rest, N', hne, sub, back⟩ := news_front U N
  refine one_tells x y tx ty t1 t2 c c2 src th rest hx hy hy2 hne hth cn cs a ccd cl base h₀ L m s Q E B F X (fun p hp => ?_) T hk
    fun v x' y' t tx' ty' c' h' tk' h1 h3 h4 h5 F' N'' => hret v x' y' t tx' ty' c' h' tk' h1 h3 h4 h5 F' fun news' U' => back _ _ _ U' fun p hp => ?_
  · rcases List.mem_cons.mp hp with rfl | hp
    · exact N' _ (List.mem_cons_self ..)
    · rcases List.mem_cons.mp hp with rfl | hp
      · exact N _ hmem
      · exact N' _ (List.mem_cons_of_mem _ hp)
  · rcases List.mem_cons.mp hp with rfl | hp
    · exact N'' _ (List.mem_cons_self ..)
    · exact N'' _ (List.mem_cons_of_mem _ (List.mem_cons_of_mem _ hp))
end
section
open PySem PySem.W PySem.Spec PySem.Calls PyProof.Rows
section
variable {w : World} {p : Program} {loose : List Str} {mean : ExcName → Option Value} {mg mb : Str → Option Value} {cn : Str} {cs : Scope} {a : Addr} {ccd : Value} {cl : List (Str × Addr)} {base h₀ : Heap} {L : Addr} {m : Str → Option Value} {news : List (Addr × Obj)} {s : Shared} {Q E : Value → Shared → Prop}
theorem told_line {one other most : Int} {t1 t2 t3 : Tok} (B : Below callerA base [] h₀) (F : Fr h₀ L s.heap m) (X : (Mine.keepK.heap_208 w.params).In h₀) (N : News h₀ L s.heap news) (T : Top p loose mean mg mb h₀) (hk : cs.kind = .function)
    (h1 : 1 ≤ one) (h2 : 1 ≤ other) (b1 : one < big) (b2 : other < big) (hm : most = (Int.gcd one other : Int))
    (hret : ∀ (t : Tok) (h' : Heap) (tk' : Nat), Fr h₀ L h' m → News h₀ L h' news → Q (.bool true) { s with heap := h', toks := tk' }) :
    wpAny (model Challenge.rw_xm0682_01.row.prog w) (callerA.deeper (envX cn cs L a ccd cl)) (call (.ref 173) [.int one t1, .int other t2, .int most t3]) Q E s :=
  told_tells one other most t1 t2 t3 h1 h2 b1 b2 hm cn cs a ccd cl base h₀ L m news s Q E B F X N T hk hret
theorem take_line {x y top : Int} {tx ty tt : Tok} {c : Nat} {src : Addr} (B : Below callerA base [] h₀) (F : Fr h₀ L s.heap m) (X : (Mine.keepK.heap_208 w.params).In h₀) (N : News h₀ L s.heap news) (T : Top p loose mean mg mb h₀) (hk : cs.kind = .function)
    (U : Upd src (listOf #[.int x tx, .int y ty] c) (listOf #[.int x tx, .int y ty] c) news news) (hx : 0 ≤ x) (hy : 0 ≤ y) (hy2 : y < 2147483647) (ht : 1 ≤ top) (ht2 : top < big)
    (hret : ∀ (v x' y' : Int) (t tx' ty' : Tok) (c' : Nat) (h' : Heap) (tk' : Nat), 0 ≤ v → v < top → 0 ≤ x' → 0 ≤ y' → y' < 2147483647 → Fr h₀ L h' m → (∀ news', Upd src (listOf #[.int x tx, .int y ty] c) (listOf #[.int x' tx', .int y' ty'] c') news news' → News h₀ L h' news') → Q (.int v t) { s with heap := h', toks := tk' }) :
    wpAny (model Challenge.rw_xm0682_01.row.prog w) (callerA.deeper (envX cn cs L a ccd cl)) (call (.ref 145) [.ref src, .int top tt]) Q E s :=
  take_use x y top tx ty tt c src news hx hy hy2 ht ht2 U cn cs a ccd cl base h₀ L m s Q E B F X N T hk hret
theorem one_line {x y : Int} {tx ty t1 t2 : Tok} {c c2 : Nat} {src th : Addr} (B : Below callerA base [] h₀) (F : Fr h₀ L s.heap m) (X : (Mine.keepK.heap_208 w.params).In h₀) (N : News h₀ L s.heap news) (T : Top p loose mean mg mb h₀) (hk : cs.kind = .function)
    (U : Upd src (listOf #[.int x tx, .int y ty] c) (listOf #[.int x tx, .int y ty] c) news news) (hx : 0 ≤ x) (hy : 0 ≤ y) (hy2 : y < 2147483647) (hmem : (th, listOf #[.int 1 t1, .int (-1) t2] c2) ∈ news) (hth : th ≠ src)
    (hret : ∀ (v x' y' : Int) (t tx' ty' : Tok) (c' : Nat) (h' : Heap) (tk' : Nat), (v = 1 ∨ v = -1) → 0 ≤ x' → 0 ≤ y' → y' < 2147483647 → Fr h₀ L h' m → (∀ news', Upd src (listOf #[.int x tx, .int y ty] c) (listOf #[.int x' tx', .int y' ty'] c') news news' → News h₀ L h' news') → Q (.int v t) { s with heap := h', toks := tk' }) :
    wpAny (model Challenge.rw_xm0682_01.row.prog w) (callerA.deeper (envX cn cs L a ccd cl)) (call (.ref 152) [.ref src, .ref th]) Q E s :=
  one_use x y tx ty t1 t2 c c2 src th news hx hy hy2 U hth hmem cn cs a ccd cl base h₀ L m s Q E B F X N T hk hret
theorem pool_line {sl : Addr} {vs : List Value} {ns : List Int} (B : Below callerA base [] h₀) (F : Fr h₀ L s.heap m) (X : (Mine.keepK.heap_208 w.params).In h₀) (N : News h₀ L s.heap news) (T : Top p loose mean mg mb h₀) (hk : cs.kind = .function)
    (hl : base.IsList sl vs.toArray) (hi : IntsAre vs ns) (hn : ns.length < 2 ^ 62)
    (hret : ∀ (x y : Int) (tx ty : Tok) (c : Nat) (D : Addr) (h' : Heap) (tk' : Nat), 0 ≤ x → 0 ≤ y → y < 2147483647 → (∀ p ∈ news, p.1 < D) → Fr h₀ L h' m → News h₀ L h' ((D, listOf #[.int x tx, .int y ty] c) :: news) → Q (.ref D) { s with heap := h', toks := tk' }) :
    wpAny (model Challenge.rw_xm0682_01.row.prog w) (callerA.deeper (envX cn cs L a ccd cl)) (call (.ref 138) [.ref sl]) Q E s :=
  pool_tells sl vs ns cn cs a ccd cl base h₀ L m news s Q E hl hi hn B F X N T hk hret
end
end
section
open PySem PySem.W PySem.Spec PySem.Calls PyProof.Rows
section
variable {prog : Program} {w : World} {A : Around} {E : Value → Shared → Prop} {s : Shared} {h₀ : Heap} {L : Addr} {m : Str → Option Value} {news : List (Addr × Obj)} {Q : Value → Shared → Prop}
/-- a step of one to seven, up or down -/
theorem mul_step {v u : Int} {t t' : Tok} (h0 : 0 ≤ v) (h7 : v < 7) (hu : u = 1 ∨ u = -1) (h : ∀ g : Int, g ≠ 0 → -7 ≤ g → g ≤ 7 → Q (.int g s.toks) { s with toks := s.toks + 1 }) :
    wpAny (model prog w) A (binaryOp .Mult (.int (1 + v) t) (.int u t')) Q E s := by
  refine mul_int (h ((1 + v) * u) ?_ ?_ ?_) ?_
  · rcases hu with rfl | rfl <;> omega
  · rcases hu with rfl | rfl <;> omega
  · rcases hu with rfl | rfl <;> omega
  · exact .of_right (intBits_le_64 (by omega) (by omega))
theorem mul_reach {v b : Int} {t t' : Tok} (h0 : 0 ≤ v) (h9 : v < 9) (b0 : 1 ≤ b) (b7 : b ≤ 7) (h : ∀ g : Int, 0 ≤ g → g ≤ 56 → Q (.int g s.toks) { s with toks := s.toks + 1 }) :
    wpAny (model prog w) A (binaryOp .Mult (.int v t) (.int b t')) Q E s := by
  refine mul_int (h (v * b) (Int.mul_nonneg h0 (by omega)) ?_) ?_
  · have : v * b ≤ 8 * b := Int.mul_le_mul_of_nonneg_right (by omega) (by omega)
    omega
  · exact .of_right (intBits_le_64 (by omega) (by omega))
theorem abs_step {v : Int} {t : Tok} (h0 : v ≠ 0) (h1 : -7 ≤ v) (h7 : v ≤ 7) (h : ∀ (b : Int) u tk, 1 ≤ b → b ≤ 7 → Q (.int b u) { s with toks := tk }) :
    wpAny (model prog w) A (call (.builtin "abs") [.int v t]) Q E s := by
  refine call_abs_int fun u tk => h _ u tk ?_ ?_ <;> split <;> omega
structure JoinMark : Prop where
/-- two ways that hand back True and leave all else -/
def JoinTrue (h₀ : Heap) (L : Addr) (m : Str → Option Value) (news : List (Addr × Obj)) (s : Shared) (v : Value) (s' : Shared) : Prop :=
  v = .bool true ∧ ∃ h' tk', s' = { s with heap := h', toks := tk' } ∧ Fr h₀ L h' m ∧ News h₀ L h' news
theorem join_true {t : Sem Value} (F : Fr h₀ L s.heap m) (N : News h₀ L s.heap news) (hw : JoinMark → wpAny (model prog w) A t (fun v s' => JoinTrue h₀ L m news s v s') E s)
    (hk : ∀ h' tk', Fr h₀ L h' m → News h₀ L h' news → Q (.bool true) { s with heap := h', toks := tk' }) : wpAny (model prog w) A t Q E s := by
  let _ := F; let _ := N
  refine wpAny_mono (hw JoinMark.mk) (fun v s' h => ?_) fun _ _ x => x
  obtain ⟨rfl, h', tk', rfl, F', N'⟩ := h
  exact hk h' tk' F' N'
theorem join_end {h' : Heap} {tk' : Nat} {news' : List (Addr × Obj)} (F : Fr h₀ L h' m) (N : News h₀ L h' news') (hs : ∀ p ∈ news, p ∈ news') : JoinTrue h₀ L m news s (.bool true) { s with heap := h', toks := tk' } :=
  ⟨rfl, h', tk', rfl, F, fun p hp => N p (hs p hp)⟩
end
end
section
open PySem PySem.W PySem.Spec PySem.Calls PyProof.Rows
def gcdG (e o : Int) (l : List Int) (k : Int) : List Int := if e.fmod k = 0 ∧ o.fmod k = 0 then l ++ [k] else l
theorem gcdG_grows (e o : Int) : KPfGrows (gcdG e o) := by
  intro l k
  unfold gcdG
  split <;> simp
theorem rangeKs_succ (a : Int) (n : Nat) : rangeKs a (n + 1) = rangeKs a n ++ [a + (n : Int)] := by
  simp [rangeKs, List.range_succ]
theorem gcd_div {e o k : Int} (he : 1 ≤ e) (h1 : e.fmod k = 0) (h2 : o.fmod k = 0) : k ≤ (Int.gcd e o : Int) := by
  have d1 : k ∣ e := Int.dvd_of_fmod_eq_zero h1
  have d2 : k ∣ o := Int.dvd_of_fmod_eq_zero h2
  have d := Int.dvd_coe_gcd d1 d2
  have hp : (0 : Int) < (Int.gcd e o : Int) := by
    have := Int.gcd_pos_of_ne_zero_left o (show e ≠ 0 by omega)
    omega
  exact Int.le_of_dvd hp d
theorem gcd_fold {e o : Int} (he : 1 ≤ e) : ∀ n : Nat, Int.gcd e o ≤ n → ∃ zs, (rangeKs 1 n).foldl (gcdG e o) [] = zs ++ [(Int.gcd e o : Int)] := by
  intro n hn
  have hp := Int.gcd_pos_of_ne_zero_left o (show e ≠ 0 by omega)
  obtain ⟨j, rfl⟩ := Nat.exists_eq_add_of_le hn
  clear hn
  induction j with
  | zero =>
    obtain ⟨g, hg⟩ : ∃ g, Int.gcd e o = g + 1 := ⟨Int.gcd e o - 1, by omega⟩
    refine ⟨(rangeKs 1 g).foldl (gcdG e o) [], ?_⟩
    have e1 : Int.gcd e o + 0 = g + 1 := by omega
    rw [e1, rangeKs_succ, List.foldl_append]
    have e2 : (1 : Int) + (g : Int) = (Int.gcd e o : Int) := by omega
    rw [e2]
    show gcdG e o _ _ = _
    unfold gcdG
    rw [if_pos ⟨Int.fmod_eq_zero_of_dvd (Int.gcd_dvd_left ..), Int.fmod_eq_zero_of_dvd (Int.gcd_dvd_right ..)⟩]
  | succ j ih =>
    obtain ⟨zs, hz⟩ := ih
    refine ⟨zs, ?_⟩
    rw [← Nat.add_assoc, rangeKs_succ, List.foldl_append, hz]
    show gcdG e o _ _ = _
    unfold gcdG
    rw [if_neg]
    intro hh
    have := gcd_div (k := 1 + ((Int.gcd e o + j : Nat) : Int)) he hh.1 hh.2
    omega
theorem gcd_le_min {e o : Int} (he : 1 ≤ e) (ho : 1 ≤ o) : (Int.gcd e o : Int) ≤ e ∧ (Int.gcd e o : Int) ≤ o :=
  ⟨Int.le_of_dvd (by omega) (Int.gcd_dvd_left ..), Int.le_of_dvd (by omega) (Int.gcd_dvd_right ..)⟩
theorem gcd_el {e o k : Int} {l : List Int} (h1 : e.fmod k = 0) (h2 : o.fmod k = 0) : gcdG e o l k = l ++ [k] := by
  unfold gcdG; rw [if_pos ⟨h1, h2⟩]
theorem gcd_no {e o k : Int} {l : List Int} (h : e.fmod k ≠ 0 ∨ o.fmod k ≠ 0) : gcdG e o l k = l := by
  unfold gcdG
  rw [if_neg]
  rintro ⟨a, b⟩
  rcases h with h | h
  · exact h a
  · exact h b
section
variable {prog : Program} {w : World} {A : Around} {E : Value → Shared → Prop} {s : Shared} {h₀ : Heap} {L : Addr} {m : Str → Option Value} {env : Env} {ct elt : PySem.Expr} {x : Str} {scope : Scope} {cl : List (Str × Addr)} {Fin : Shared → List Value → List (Addr × Obj) → Prop} {news : List (Addr × Obj)} {s₁ : Shared}
theorem comp_gcd {e o : Int} {r : Addr} {t u v : Tok} (he : 1 ≤ e) (he2 : e ≤ 60) (ho : 1 ≤ o) (ho2 : o ≤ 60)
    (hh : A.handled = none) (F : Fr h₀ L s₁.heap m) (N : News h₀ L s₁.heap news) (hr : IsRange s₁.heap r 1 ((if o < e then o else e) + 1) 1 t u v)
    (turn : ∀ k t I oI C oC D m₂ ys l h tk (E' : Value → Shared → Prop), 1 ≤ k → k ≤ 60 → IntsAre ys l → LCg.NsObj oC m₂ → m₂ x = some (.int k t) → Fr h₀ L h m → News h₀ L h ((I, oI) :: (C, oC) :: (D, LCg.lst ys) :: news) → LCg.Off3 I C D news → ((@Ne Nat I C) ∧ (@Ne Nat I D) ∧ (@Ne Nat C D)) → KPfMark →
      wpAny (model prog w) A (isTrue ct (compEnvC scope cl C env) (eval ct (compEnvC scope cl C env))) (fun b s' => if b = true then wpAny (model prog w) A (eval elt (compEnvC scope cl C env)) (LCg.CompEnd h₀ L m { s₁ with heap := h, toks := tk } I oI C oC D (LCg.lst ys) (fun _ => True) (fun y news' => KCiEl news l (gcdG e o l k) y news')) E' s'
        else LCg.CompEnd h₀ L m { s₁ with heap := h, toks := tk } I oI C oC D (LCg.lst ys) (fun _ => True) (fun _ news' => KCiNo news l (gcdG e o l k) news') Value.none s') E' { s₁ with heap := h, toks := tk })
    (fin : ∀ g zs ys, zs.length ≤ 60 → IntsAre ys (zs ++ [(Int.gcd e o : Int)]) → Fin { s₁ with heap := g } ys news) :
    LCt.CompSrcT prog w A h₀ L m env ct elt x scope cl Fin (.ref r) s₁ := by
  have hn0 : ∃ n : Nat, (if o < e then o else e) = (n : Int) ∧ n ≤ 60 := by
    refine ⟨(if o < e then o else e).toNat, ?_, ?_⟩ <;> split <;> omega
  obtain ⟨n, hn, hn6⟩ := hn0
  have hgn : Int.gcd e o ≤ n := by
    have hg := gcd_le_min he ho
    split at hn <;> omega
  rw [hn] at hr
  refine LCt.CompSrcT.range (n := n) hh F N hr (small_one (by decide) (by decide) (by omega) (by omega)) ?_ (by rw [PySem.sizeLine_eq]; omega) ?_
  · have := rangeSize_nat 1 ((n : Int) + 1)
    rw [this]; omega
  · intro g
    refine kci_range (gcdG e o) (fun k t I oI C oC D m₂ ys l h tk E' hlo hhi hI hC hx F N off ne mk => turn k t I oI C oC D m₂ ys l h tk E' hlo (by omega) hI hC hx F N off ne mk) ?_ (gcdG_grows e o)
    intro ys hy hl
    obtain ⟨zs, hz⟩ := gcd_fold (o := o) he n hgn
    rw [hz] at hy
    refine fin g zs ys ?_ hy
    have := hy.length
    simp at this
    omega
theorem gcd_last {l : Addr} {vs : List Value} {Q : Value → Shared → Prop} {value slice : PySem.Expr} {u : Tok} {zs : List Int} {g : Int} (hl : s.heap.IsList l vs.toArray) (hi : IntsAre vs (zs ++ [g])) (h : ∀ t, Q (.int g t) s)
    (hs : subscripted slice false (.ref l) (.int (-1) u) = operate [.ref l, .int (-1) u] (getItem (.ref l) (.int (-1) u)) := by with_unfolding_all rfl) :
    wpAny (model prog w) A (subscriptTail value slice (.ref l) (.int (-1) u)) Q E s := by
  have hlen := IntsAre.length hi
  obtain ⟨t, ht⟩ := hi.get zs.length g (by simp)
  have hl1 : (zs ++ [g]).length = zs.length + 1 := by simp
  exact kde_neg hl (by decide) (by decide) (seqIndex?_neg_one (by omega)) (by rw [hlen, hl1]; exact ht) (h t) hs
end
end
section
open PySem PySem.W PySem.W.X PySem.Spec PySem.Calls PyProof.Rows
set_option maxRecDepth 100000
set_option maxHeartbeats 0
abbrev tupO (l : List Value) : Obj := { cls := .type "tuple", data := .seq l.toArray }
abbrev thrO (dx : Addr) (a0 : Value) : Obj := { cls := .ref 52, dict := some dx, data := .fields #[a0, .none, .none, .none, .bool false, .none] }
def ThrownTo (h : Heap) (t1 : Tok) (g : Array GenState) (d : Drawn) (os : OsState) (Q : Value → Shared → Prop) : Prop :=
  ∀ (e dx v kd em : Addr) (a0 x : Value) (od : Obj) (u1 u2 : Tok) (h' : Heap) (tk' : Nat),
    (∀ b o, h.get? b = some o → h'.get? b = some o) →
    h'.get? e = some (thrO dx a0) → h.get? e = none →
    h'.get? dx = some od → h.get? dx = none → (∃ es n, od.data = .dict es n) → lookIn (Str.ofString "value") od = some (some (.ref v)) →
    h'.get? v = some (tupO [.str (Str.ofString "struct") u1, .ref kd, x]) → h.get? v = none →
    h'.get? kd = some (tupO [.str (Str.ofString "name") u2, .str (Str.ofString "ArgumentError") t1, .ref em]) → h.get? kd = none →
    h'.get? em = some (tupO []) → h.get? em = none →
    e ≠ dx → e ≠ v → e ≠ kd → e ≠ em → Q (.ref e) ⟨h', g, d, tk', os⟩
theorem mem_new {h₀ h : Heap} {chg news : List (Addr × Obj)} (D : Mem h₀ h chg news) (i : Nat) (a : Addr) (o : Obj) (hi : news[i]? = some (a, o)) : h₀.get? a = none := (D.nw _ (List.mem_of_getElem? hi)).2
local macro_rules | `(tactic| x_close) => `(tactic| ((rename ThrownTo _ _ _ _ _ _ => HH); (rename Mem _ _ _ _ => DD); (refine HH _ _ _ _ _ _ _ _ _ _ _ _ (fun b o q => Mem.old DD b o q (by cases hasCls o <;> rfl)) (Mem.at DD 4 _ _ rfl) (mem_new DD 4 _ _ rfl) (Mem.at DD 0 _ _ rfl) (mem_new DD 0 _ _ rfl) ⟨_, _, rfl⟩ ?look (Mem.at DD 6 _ _ rfl) (mem_new DD 6 _ _ rfl) (Mem.at DD 7 _ _ rfl) (mem_new DD 7 _ _ rfl) (Mem.at DD 8 _ _ rfl) (mem_new DD 8 _ _ rfl) (Ne.symm (Mem.ne DD 0 4 _ _ _ _ rfl rfl rfl)) (Mem.ne DD 4 6 _ _ _ _ rfl rfl rfl) (Mem.ne DD 4 7 _ _ _ _ rfl rfl rfl) (Mem.ne DD 4 8 _ _ _ _ rfl rfl rfl)); (case look => first | rfl | with_unfolding_all rfl | kernel_rfl)))
theorem thrown_tells {w : World} (E1 E2 E3 : Env)
    (t1 t2 : Tok) (h : Heap) (g : Array GenState) (d : Drawn) (tk : Nat) (os : OsState) (Q E : Value → Shared → Prop)
    (X : (Mine.keepK.heap_208 w.params).In h) 
    (hret : ThrownTo h t1 g d os Q) :
    wpAny (model Challenge.rw_xm0682_01.row.prog w) (((callerA.deeper E1).deeper E2).deeper E3) (call (.ref 82) [.str (Str.ofString "ArgumentError") t1, .str (Str.ofString "a range cannot have a step of 0") t2]) Q E ⟨h, g, d, tk, os⟩ := by
  x_run
end
section
open PySem PySem.W PySem.W.X PySem.Spec PySem.Calls PyProof.Rows
open PySem.Sem (wp)
set_option maxRecDepth 100000
/-- no object is lost, and none gets another dict -/
def Alike (h h' : Heap) : Prop := ∀ b o, h.get? b = some o → ∃ o', h'.get? b = some o' ∧ o'.dict = o.dict
theorem Alike.refl (h : Heap) : Alike h h := fun _ o e => ⟨o, e, rfl⟩
theorem Alike.trans {h₁ h₂ h₃ : Heap} (x : Alike h₁ h₂) (y : Alike h₂ h₃) : Alike h₁ h₃ := fun b o e =>
  let ⟨o₁, e₁, d₁⟩ := x b o e
  let ⟨o₂, e₂, d₂⟩ := y b o₁ e₁
  ⟨o₂, e₂, d₂.trans d₁⟩
theorem Alike.push (h : Heap) (o : Obj) : Alike h (h.push o) := fun _ x e => ⟨x, Heap.get?_push_of_some _ e, rfl⟩
theorem Alike.update (h : Heap) (a : Addr) (f : Obj → Obj) (hf : ∀ o, (f o).dict = o.dict ∧ (f o).isFreed = o.isFreed) : Alike h (h.update a f) := fun b o e => by
  by_cases q : a = b
  · subst q
    exact ⟨_, Heap.get?_update_self f e ((hf o).2.trans (Heap.get?_some_iff.mp e).2), (hf o).1⟩
  · exact ⟨o, (Heap.get?_update_other _ _ q).trans e, rfl⟩
theorem slots_alike (sl : Obj → Array (Option Value)) (o : Obj) : ({ o with slots := sl o } : Obj).dict = o.dict ∧ ({ o with slots := sl o } : Obj).isFreed = o.isFreed := ⟨rfl, kts_isFreed o _⟩
theorem fields_alike (g : Array Value → Array Value) (o : Obj) : (Obj.mapFields g o).dict = o.dict ∧ (Obj.mapFields g o).isFreed = o.isFreed := by
  obtain ⟨_, _, dt, _⟩ := o
  cases dt <;> exact ⟨rfl, rfl⟩
structure Steady {α : Type} (t : Sem α) : Prop where
  out : ∀ (M : Model) (Γ : PySem.Ctx) (P : α → Pos → Shared → Prop) (Ee : Value → Pos → Shared → Prop) (p : Pos) (s : Shared), wp M Γ t P Ee p s → wp M Γ t (fun a p' s' => P a p' s' ∧ Alike s.heap s'.heap) Ee p s
namespace Steady
variable {α β : Type}
theorem pure (a : α) : Steady (Pure.pure a : Sem α) := ⟨fun _ _ _ _ _ _ h => ⟨h, Alike.refl _⟩⟩
theorem unsupported (w : String) : Steady (PySem.unsupported w : Sem α) := ⟨fun _ _ _ _ _ _ h => h⟩
theorem bind {m : Sem α} {f : α → Sem β} (hm : Steady m) (hf : ∀ a, Steady (f a)) : Steady (m >>= f) := ⟨fun M Γ P Ee p s h => by
  rw [Sem.wp_bind'] at h ⊢
  refine Sem.wp_mono M Γ m (fun a p' s' h' => ?_) (fun _ _ _ x => x) p s (hm.out M Γ _ Ee p s h)
  exact Sem.wp_mono M Γ (f a) (fun b p'' s'' h'' => ⟨h''.1, h'.2.trans h''.2⟩) (fun _ _ _ x => x) p' s' ((hf a).out M Γ P Ee p' s' h'.1)⟩
theorem ite {c : Prop} [Decidable c] {t u : Sem α} (ht : Steady t) (hu : Steady u) : Steady (if c then t else u) := by split <;> assumption
theorem load (a : Addr) : Steady (PySem.load a) := ⟨fun _ _ _ _ _ _ h => by
  obtain ⟨o, ho, hP⟩ := h
  exact ⟨o, ho, hP, Alike.refl _⟩⟩
theorem update (a : Addr) (f : Obj → Obj) (hf : ∀ o, (f o).dict = o.dict ∧ (f o).isFreed = o.isFreed) : Steady (PySem.update a f) := ⟨fun M Γ P Ee p s h => by
  rw [Sem.wp_cmd_update] at h ⊢
  exact ⟨h.1, h.2, Alike.update _ _ _ hf⟩⟩
theorem stack : Steady PySem.stack := ⟨fun M Γ P Ee p s h => by
  unfold PySem.stack at h ⊢
  rw [Sem.wp_stack] at h ⊢
  exact ⟨h, Alike.refl _⟩⟩
theorem alloc (o : Obj) : Steady (PySem.alloc o) := ⟨fun _ _ _ _ _ _ h => ⟨h, Alike.push _ _⟩⟩
theorem field (v : Value) (i : Nat) : Steady (PySem.field v i) := ⟨fun M Γ P Ee p s h => by
  rw [wp_field_iff] at h ⊢
  obtain ⟨a, o, vs, x, e, ho, hd, hx, hP⟩ := h
  exact ⟨a, o, vs, x, e, ho, hd, hx, hP, Alike.refl _⟩⟩
theorem setField (v : Value) (i : Nat) (x : Value) : Steady (PySem.setField v i x) := ⟨fun M Γ P Ee p s h => by
  rw [wp_setField_iff] at h ⊢
  obtain ⟨a, o, vs, e, ho, hd, hi, hP⟩ := h
  exact ⟨a, o, vs, e, ho, hd, hi, hP, Alike.update _ _ _ (fields_alike _)⟩⟩
end Steady
theorem steady_behindIsImport (env : Env) (outer : List Env) : Steady (behindIsImport env outer) := by
  unfold behindIsImport
  repeat' with_reducible first | exact Steady.pure _ | exact Steady.field _ _ | apply Steady.ite | apply Steady.bind | intro _
theorem steady_underTheClaimsCaller : Steady underTheClaimsCaller := by
  unfold underTheClaimsCaller
  repeat' with_reducible first | exact Steady.pure _ | exact Steady.stack | exact Steady.unsupported _ | apply Steady.ite | apply Steady.bind | intro _ | split
theorem steady_keptBack (env : Env) (i : Bool) (l : List Env) : Steady (keptBack env i l) := by
  cases l <;> unfold keptBack <;> repeat' with_reducible first | exact Steady.pure _ | exact steady_underTheClaimsCaller | apply Steady.ite | apply Steady.bind | intro _ | split
theorem steady_readyFrames : ∀ l : List Env, Steady (readyFrames l)
  | [] => Steady.pure _
  | env :: outer => by
    have ih := steady_readyFrames outer
    unfold readyFrames
    repeat' with_reducible first | exact ih | exact Steady.pure _ | exact Steady.unsupported _ | exact Steady.load _ | exact steady_behindIsImport _ _ | exact steady_keptBack _ _ _ | exact Steady.update _ _ (slots_alike _) | apply Steady.ite | apply Steady.bind | intro _ | split
theorem steady_frameOf (env : Env) : Steady (PySem.frameOf env) := by
  unfold PySem.frameOf frameEnvs
  have ho : ∀ l : List Env, Steady (frameObject l) := fun l => by
    cases l with
    | nil => exact Steady.pure _
    | cons env outer =>
      unfold frameObject
      repeat' with_reducible first | exact steady_readyFrames _ | exact Steady.pure _ | apply Steady.bind | intro _
  repeat' with_reducible first | exact ho _ | exact Steady.pure _ | exact Steady.unsupported _ | exact Steady.stack | apply Steady.ite | apply Steady.bind | intro _ | split
theorem steady_entryPlaceOf (f : Addr) (b : Bool) : Steady (entryPlaceOf f b) := by
  unfold entryPlaceOf
  repeat' with_reducible first | exact Steady.pure _ | exact Steady.stack | apply Steady.bind | intro _ | split
theorem steady_newEntry (a b c d e : Value) (l : List Value) : Steady (EntryCells.newEntry a b c d e l) := by
  unfold EntryCells.newEntry newFields newObj newObjAsIs
  dsimp only
  repeat' with_reducible first | exact Steady.pure _ | exact Steady.unsupported _ | exact Steady.alloc _ | apply Steady.ite | apply Steady.bind | intro _ | split
theorem steady_noteFrame (e : Value) (env : Env) : Steady (noteFrame e env) := by
  unfold noteFrame
  repeat' with_reducible first | exact Steady.pure _ | exact Steady.unsupported _ | exact Steady.field _ _ | exact Steady.setField _ _ _ | exact steady_frameOf _ | exact steady_entryPlaceOf _ _ | exact steady_newEntry _ _ _ _ _ _ | apply Steady.ite | apply Steady.bind | intro _ | split
theorem steady_setFlight (e : Value) (f : Option Addr) : Steady (setFlight e f) := by
  unfold setFlight
  repeat' with_reducible first | exact Steady.pure _ | exact Steady.field _ _ | exact Steady.setField _ _ _ | apply Steady.ite | apply Steady.bind | intro _ | split
theorem steady_leaving (env : Env) (e : Value) : Steady (leaving env e) := by
  unfold leaving
  exact Steady.bind (steady_noteFrame _ _) fun _ => steady_setFlight _ _
theorem Steady.any {α : Type} {t : Sem α} (k : Steady t) {M : Model} {A : Around} {Q : α → Shared → Prop} {E : Value → Shared → Prop} {s : Shared} (h : wpAny M A t (fun a s' => Alike s.heap s'.heap → Q a s') E s) : wpAny M A t Q E s :=
  fun Γ p hΓ => Sem.wp_mono M Γ t (fun _ _ _ x => x.1 x.2) (fun _ _ _ x => x) p s (k.out M Γ _ _ p s (h Γ p hΓ))
end
section
open PySem PySem.W PySem.W.X PySem.Spec PySem.Calls PyProof.Rows
open PySem.Sem (wp)
set_option maxRecDepth 100000
section
variable {M : Model} {A : Around} {E : Value → Shared → Prop} {s' : Shared} {base g : Heap} {outer : List Env} {L a e dx : Addr} {oe : Obj} {vs : Array Value} {a0 : Value} {m : Str → Option Value} {name : Str} {scope : Scope} {cd : Value} {Q : Unit → Shared → Prop} {news : List (Addr × Obj)}
/-- an exception of any class leaves the frame that raised it; its dict stays its own -/
theorem leave_thrown (K : Below A base outer g) (F : Fr g L s'.heap m) (N : News g L s'.heap news) (he : s'.heap.get? e = some oe) (hen : g.get? e = none) (hne : ∀ q ∈ news, q.1 ≠ e)
    (hd : oe.data = .fields vs) (h1 : vs[1]? = some .none) (h0 : vs[0]? = some a0) (hdx : oe.dict = some dx)
    (hQ : ∀ h', RaisedSN base g outer e oe.cls news h' → (∃ o, h'.get? e = some o ∧ o.dict = some dx) → g.UpToSlots h' → Q () { s' with heap := h' }) (hk : scope.kind = .function := by rfl) :
    wpAny M (A.deeper (envOf name scope L a cd)) (leaving (envOf name scope L a cd) (.ref e)) Q E s' := by
  have P := K.push (name := name) (a := a) (cd := cd) F hk
  have eb : base.get? e = none := fresh_of_stays K.stays hen
  have inAll : ∀ env ∈ (envOf name scope L a cd :: outer), ∀ b, env.frame = some b → b ∈ e :: (envOf name scope L a cd :: outer).filterMap (·.frame) :=
    fun env hm b hb => .tail _ (List.mem_filterMap.mpr ⟨env, hm, hb⟩)
  have hidden : (hideAll s'.heap (e :: (envOf name scope L a cd :: outer).filterMap (·.frame))).get? e = none := hideAll_none _ (.head _)
  have seen : ∀ b o, s'.heap.get? b = some o → b ≠ e → b ≠ L → b ∉ outer.filterMap (·.frame) → (hideAll s'.heap (e :: (envOf name scope L a cd :: outer).filterMap (·.frame))).get? b = some o := fun b o hb n1 n2 n3 => by
    refine hideAll_get _ hb fun hm => ?_
    rcases List.mem_cons.mp hm with z | z
    · exact n1 z
    · rcases kts_mem z with z | z
      · exact n2 z
      · exact n3 z
  have gL : g.get? L = none := kts_self F
  have frameG : ∀ b, b ∈ outer.filterMap (·.frame) → ∃ o, g.get? b = some o := fun b hb => let ⟨_, o, ho, _⟩ := K.frames.mem hb; ⟨o, ho⟩
  have stay : base.StaysIn (hideAll s'.heap (e :: (envOf name scope L a cd :: outer).filterMap (·.frame))) := fun b o q => by
    have qg := K.stays b o q
    refine seen b o (F.keep b o qg) (fun z => ?_) (fun z => ?_) fun z => ?_
    · rw [z, eb] at q; cases q
    · rw [z, gL] at qg; cases qg
    · rw [(K.frames.mem z).1] at q; cases q
  have stayG : ∀ b o, g.get? b = some o → b ∉ outer.filterMap (·.frame) → (hideAll s'.heap (e :: (envOf name scope L a cd :: outer).filterMap (·.frame))).get? b = some o := fun b o q n3 => by
    refine seen b o (F.keep b o q) (fun z => ?_) (fun z => ?_) n3
    · rw [z, hen] at q; cases q
    · rw [z, gL] at q; cases q
  have stayN : ∀ q ∈ news, (hideAll s'.heap (e :: (envOf name scope L a cd :: outer).filterMap (·.frame))).get? q.1 = some q.2 ∧ g.get? q.1 = none ∧ base.get? q.1 = none := fun q hq => by
    refine ⟨seen _ _ (N q hq).1 (hne q hq) (N q hq).2.1 (fun z => ?_), (N q hq).2.2, fresh_of_stays K.stays (N q hq).2.2⟩
    obtain ⟨o, ho⟩ := frameG _ z
    rw [(N q hq).2.2] at ho; cases ho
  refine (steady_leaving _ _).any (wpAny_leaving_firstW (a0 := a0) P.stack (funFrames_hide P.frames inAll) rfl he (fun b o hb => of_hideAll _ hb) hidden hd h1 h0 fun h' hL al => ?_)
  obtain ⟨k1, ⟨_, _, k2⟩, k3, k4⟩ := hL
  obtain ⟨o', ho', hd'⟩ := al e oe he
  exact hQ h' ⟨_, a0, stay, stayG, stayN, k1, hidden, k2, k3⟩ ⟨o', ho', hd'.trans hdx⟩ ((Heap.UpToSlots.of_keeps F.keep).trans k4)
end

section
variable {prog : Program} {w : World} {A₀ : Around} {E : Value → Shared → Prop} {s' : Shared} {base g g₀ G : Heap} {outer : List Env} {L a e C dx : Addr} {m : Str → Option Value} {name : Str} {scope : Scope} {cd : Value}
  {n : Str} {b₀ : Stmt} {suite : List Stmt} {pos np : Pos} {rest : List ExceptHandler} {Q : Flow → Shared → Prop} {news : List (Addr × Obj)} {KF : Frag}
  {p : Program} {loose : List Str} {mean : ExcName → Option Value} {mg mb : Str → Option Value} {x : Str}
/-- an own exception is caught by its class's name and bound; the handler finds its dict as it was -/
theorem caught_thrown (R : RaisedSN base G (envOf name scope L a cd :: outer) e (.ref C) news s'.heap) (hdx : ∃ o, s'.heap.get? e = some o ∧ o.dict = some dx)
    (F : Fr g L G m) (K : Below A₀ base outer g) (hsm : G.UpToSlots s'.heap) (XB : KF.In base) (TB : Top p loose mean mg mb base) (D : KtsDicts (outer.filterMap (·.frame)) g) (T0 : KtsTurn (outer.filterMap (·.frame)) g₀ g)
    (ex : nsIn KF mainGlobals x = some (some (.ref C))) (hcls : ktsIn KF C "BaseException" = true)
    (k : ∀ h' g' oe ws tk, KtsTurn (outer.filterMap (·.frame)) g₀ g' → Fr g' L h' (fun y => if y = n then some (.ref e) else m y) → News g' L h' ((e, oe) :: news) → oe.cls = .ref C → oe.dict = some dx → oe.data = .fields ws →
      Below A₀ base outer g' → KF.In g' → Top p loose mean mg mb g' → KtsDicts (outer.filterMap (·.frame)) g' →
      wpAny (model prog w) ((A₀.deeper (envOf name scope L a cd)).mark (some (.ref e))) (execs (b₀ :: suite) (envOf name scope L a cd))
        (fun f s₄ => wpAny (model prog w) (A₀.deeper (envOf name scope L a cd)) (do bindName (envOf name scope L a cd) n .none; unbindBehindTheSuite (envOf name scope L a cd) n pos) (fun _ s₅ => Q f s₅) E s₄)
        (AsSuiteRaised (model prog w) ((A₀.deeper (envOf name scope L a cd)).mark (some (.ref e))) (envOf name scope L a cd) n pos (notedBy (model prog w) ((A₀.deeper (envOf name scope L a cd)).mark (some (.ref e))) (envOf name scope L a cd) (cameBackBy (model prog w) (A₀.deeper (envOf name scope L a cd)) (envOf name scope L a cd) E)))
        { s' with heap := h', toks := tk })
    (hk : scope.kind = .function := by rfl) (hlo : (envOf name scope L a cd).kindOf n = some .local := by rfl) (hx : (envOf name scope L a cd).kindOf x = some .globalImplicit := by rfl) (hd : (x == ("__debug__" : Str)) = false := by decide) :
    wpAny (model prog w) (A₀.deeper (envOf name scope L a cd)) (noteFrame (.ref e) (envOf name scope L a cd))
      (fun _ s₂ => wpAny (model prog w) (A₀.deeper (envOf name scope L a cd)) (setFlight (.ref e) none) (fun _ s₃ =>
        wpAny (model prog w) (A₀.deeper (envOf name scope L a cd)) (handleBy (.ref e) (envOf name scope L a cd) (.ExceptHandler (some (.Name x np)) (some n) (b₀ :: suite) pos :: rest)) Q E s₃) E s₂) E s' := by
  obtain ⟨B, a0, hB, hBG, hl, fly⟩ := R
  obtain ⟨o₁, e₁, d₁⟩ := hdx
  have BL : B.get? L = none := by
    obtain ⟨_, ⟨L', _, z, y, _⟩, _⟩ := fly.2.2.1
    cases z
    exact y
  refine (steady_noteFrame _ _).any (wpAny_looks_onW (Around.frames_deeper K.stack) rfl fly fun h₂ held₂ up₂ al₂ => ?_)
  obtain ⟨o₂, e₂, d₂⟩ := al₂ e o₁ e₁
  refine (steady_setFlight _ _).any (wpAny_landsW held₂ fun h₃ fly₃ up₃ al₃ => ?_)
  obtain ⟨o₃, e₃, d₃⟩ := al₃ e o₂ e₂
  have U₃ := (hsm.trans up₂).trans up₃
  obtain ⟨g₃, _, F₃, K₃⟩ := kts_ground K F hBG fly₃.1 U₃
  have X₃ : KF.In g₃ := XB.keeps K₃.stays
  obtain ⟨_, _, _, _, bm, _, _, _, _, _, _, _, _, _, _, _, _, clsAt, isExc, _⟩ := kts_cls X₃ hcls
  obtain ⟨ob, hob, hobc⟩ := fly₃.there
  refine wpAny_handleBy_cons (codeAny_handlers_test (name_K F₃ X₃ (topRead_of (TB.keeps K₃.stays)) ex ?_ hk hx hd)) (by intro q; cases q)
  refine wpAny_excMatches_sub_self (F₃.keep _ _ clsAt) hob hobc isExc (codeAny_handlers_suite_as ?_)
  refine (steady_setFlight _ _).any (lands_againW fly₃ fun h₄ fly₄ up₄ al₄ => ?_)
  obtain ⟨o₄, e₄, d₄⟩ := al₄ e o₃ e₃
  have U₄ := U₃.trans up₄
  obtain ⟨g₄, T₄, F₄, K₄⟩ := kts_ground K F hBG fly₄.1 U₄
  obtain ⟨oe, ws, hoe, hoec, hoed, _⟩ := fly₄.first
  have same : o₄ = oe := Option.some.inj (e₄.symm.trans hoe)
  subst same
  have fresh : g₄.get? e = none := T₄.none_ _ (kts_fresh F hBG fly₄.2.1 fun o ho hm => by
    obtain ⟨_, o', ho', nf⟩ := K.frames.mem hm
    cases ho.symm.trans ho'
    obtain ⟨_, hs⟩ := U₄ _ _ (F.keep _ _ ho) nf
    cases hoe.symm.trans hs
    exact nf _ hoed)
  have kept : News g₄ L h₄ news := fun q hq => ⟨fly₄.1 _ _ (hl q hq).1, (fun z => by have y := (hl q hq).1; rw [z, BL] at y; cases y), T₄.none_ _ (kts_none F.keep (hl q hq).2.1)⟩
  have all : News g₄ L h₄ ((e, o₄) :: news) := News.more F₄ kept hoe (fun es j q => by rw [hoed] at q; cases q) fresh
  refine stN F₄ all (fun h₅ F₅ N₅ => ?_) hk hlo
  exact k h₅ g₄ o₄ ws _ (T0.trans T₄) F₅ N₅ hoec (((d₄.trans d₃).trans d₂).trans d₁) hoed K₄ (XB.keeps K₄.stays) (TB.keeps K₄.stays) (D.turn T₄)
end

section
variable {prog : Program} {w : World} {A₀ A : Around} {s : Shared} {base h₀ : Heap} {L : Addr} {m : Str → Option Value} {env : Env} {news : List (Addr × Obj)} {K : Frag} {p : Program} {loose : List Str} {mean : ExcName → Option Value} {mg mb : Str → Option Value}
    {R : Result → Shared → Prop} {name qual : Str} {params : Arguments} {body : List Stmt} {scope : Scope} {dV kV doc pm cdv ct oc : Value} {an od : Option Addr} {osl : Array (Option Value)} {f : Addr} {args : Args} {binds : List (Str × Value)}
/-- a def that tries is entered from a frame that may hold cells -/
theorem enter_try (B : Below A₀ base [] h₀) (F : Fr h₀ L s.heap m) (X₀ : K.In h₀) (N : News h₀ L s.heap news) (T : Top p loose mean mg mb h₀) (hA : A.frames = some [env]) (hf : env.frame = some L) (hke : env.scope.kind = .function)
    (ho : K.lookup f = some ⟨oc, od, .func (fnOf name qual params body scope dV kV doc pm an cdv ct), osl⟩) (hcd : codeIn K cdv qual = true) (hroom : A.depth < recursionLimit)
    (hbind : BindsTo s (fnOf name qual params body scope dV kV doc pm an cdv ct) args binds) (hloc : ∀ y ∈ binds, scope.names.lookup y.1 = some .local)
    (h : ∀ g L' h₁, Fr h₀ L g m → Fr g L' h₁ (fun y => binds.reverse.lookup y) → News g L' h₁ news → Below A h₀ [env] g → K.In g → Top p loose mean mg mb g → KtsDicts ([env].filterMap (·.frame)) g →
      wpAny (model prog w) (A.deeper (envOf qual scope L' f cdv)) (execs body (envOf qual scope L' f cdv))
        (fun fl s' => LeaveS0 ([env].filterMap (·.frame)) h₀ L m g R (match fl with | .ret v => v | _ => .none) s')
        (fun e s' => wpAny (model prog w) (A.deeper (envOf qual scope L' f cdv)) (leaving (envOf qual scope L' f cdv) e) (fun _ s'' => R (.error e) s'') (fun e' s'' => R (.error e') s'') s')
        { s with heap := h₁, toks := s.toks + binds.length })
    (hco : scope.isCoroutine = false) (hgen : scope.isGenerator = false) (hk : scope.kind = .function)
    (hcell : ∀ x ∈ scope.names, x.2 ≠ .cell) : codeAny (model prog w) A (.call (.ref f) args) R s := by
  obtain ⟨FG, BG, st, _⟩ := groundX (R := R) B F N hA hf hke
  have nL : h₀.get? L = none := kts_self F
  have fs : [env].filterMap (·.frame) = [L] := by simp [hf]
  obtain ⟨oL, es, ep, atL, dL, kL⟩ := FG.ns
  have BG' : Below A h₀ [env] (hideAll s.heap (news.map (·.1))) := ⟨hA, st, Heap.FunFrames.cons (by rw [hke]; decide) hf FG.ns nL trivial⟩
  refine codeAny_call_def (fd := fnOf name qual params body scope dV kV doc pm an cdv ct) (body := body) (binds := binds) hroom (X₀.keeps F.keep _ _ ho) rfl (T.nolimit.keeps F.keep) (codeRec_of (X₀.keeps F.keep) hcd) rfl hbind hcell hloc (fun h₁ hns hk₁ => ?_) hco hgen hk
  refine wpAny_mono (h _ s.heap.objs.size h₁ FG ⟨hns, fun b o e => hk₁ b o (of_hideAll _ e), Nat.le_of_eq (hideAll_size _ _)⟩
    (fun q hq => ⟨hk₁ _ _ (N q hq).1, Nat.ne_of_lt (Heap.lt_size (N q hq).1), hideAll_none _ (List.mem_map_of_mem hq)⟩) BG' (X₀.keeps st) (T.keeps st) (fun b hb => by
      rw [fs] at hb
      cases List.mem_singleton.mp hb
      exact ⟨oL, es, ep, atL, dL⟩)) (fun fl s' hl => ?_) fun _ _ y => y
  obtain ⟨g', L', m', news', T', F', N', k⟩ := hl
  obtain ⟨sl, atL'⟩ := T'.up atL
  refine k ⟨⟨_, es, ep, F'.keep _ _ atL', dL, kL⟩, fun b o e => F'.keep b o (T'.other b o (st b o e) fun hb => ?_), F.above⟩ fun q hq => ⟨(N' q hq).1, fun z => ?_, ?_⟩
  · rw [fs] at hb
    rw [List.mem_singleton.mp hb, nL] at e
    cases e
  · have y := (N' q hq).2.2
    rw [z, atL'] at y
    cases y
  · cases y : h₀.get? q.1 with
    | none => rfl
    | some o =>
      obtain ⟨_, hs⟩ := T'.up (st _ _ y)
      have z := (N' q hq).2.2
      rw [hs] at z
      cases z
end

section
variable {M : Model} {A : Around} {E : Value → Shared → Prop} {s : Shared} {env : Env}
variable {nm q : Str} {C N : Addr} {bs bm : List Value} {hdct : Bool} {sn : List Str} {sub : List Value} {ab : Bool} {col : Option Bool} {dd : Option Addr} {k0 k1 k2 k3 k5 : Option Value} {newId : String}
/-- raise of a call's value: an object of an own exception class, whatever its dict -/
def Thrower (C : Addr) (E : Value → Shared → Prop) (v : Value) (s₁ : Shared) : Prop :=
  ∃ e oe a0 nm q N bs bm hdct sn sub ab col dd k0 k1 k2 k3 k5 newId, v = .ref e ∧ s₁.heap.get? C = some (excClassObj nm q C N bs bm hdct sn sub ab col dd k0 k1 k2 k3 k5 newId) ∧ bm.contains (.type "BaseException") = true ∧
    s₁.heap.get? e = some oe ∧ oe.cls = .ref C ∧ oe.data = .fields #[a0, .none, .none, .none, .bool false, .none] ∧ E (.ref e) s₁
theorem raise_thrown {x : Expr} {pos : Pos} {Q : Flow → Shared → Prop} (hh : A.handled = none) (h : wpAny M A (eval x env) (Thrower C E) E s) : wpAny M A (exec (.Raise (some x) none pos) env) Q E s := by
  show wpAny M A (do standAt pos; raiseStmt env (some (do let v ← eval x env; standAt pos; pure v)) none) Q E s
  refine wpAny_bind (wpAny_standAt ?_)
  unfold raiseStmt
  refine wpAny_bind (wpAny_bind (wpAny_mono h (fun v s₁ h₁ => wpAny_bind (wpAny_standAt (wpAny_pure ?_))) fun _ _ y => y))
  obtain ⟨e, ⟨oc, od, dt, sl⟩, a0, nm, q, N, bs, bm, hdct, sn, sub, ab, col, dd, k0, k1, k2, k3, k5, newId, rfl, hC, isB, he, rfl, rfl, hE⟩ := h₁
  have hcB : (Value.ref C :: bm).contains (.type "BaseException") = true := by rw [List.contains_cons, isB, Bool.or_true]
  obtain ⟨hp, g, d, tk, os⟩ := s₁
  repeat (first | with_reducible refine wpAny_loadPart_at he ?_ | with_reducible refine wpAny_loadPart_at hC ?_ | (with_reducible refine wpAny_isSubtype_exc hC ?_; rw [hcB]) | wp_step)
  exact wpAny_raiseNew_none hh hE
end
end
section
open PySem PySem.W PySem.Spec PySem.Calls PyProof.Rows
set_option maxRecDepth 100000
section
variable {prog : Program} {w : World} {A : Around} {E : Value → Shared → Prop} {K : Frag} {h : Heap} {gs : Array GenState} {d : Drawn} {tk : Nat} {os : OsState} {C e dx : Addr} {oe od : Obj} {name : Str} {v : Addr} {attr : Option Value}
theorem ga_check {nm q : Str} {N : Addr} {bs bm : List Value} {hdct : Bool} {sn : List Str} {sub : List Value} {ab : Bool} {col : Option Bool} {dd : Option Addr} {k0 k1 k2 k3 k5 : Option Value} {newId : String} {M : Model} {nameV : Value} {Q : Unit → Shared → Prop}
    (hC : h.get? C = some (excClassObj nm q C N bs bm hdct sn sub ab col dd k0 k1 k2 k3 k5 newId)) (isB : bm.contains (.type "BaseException") = true) (hx : h.get? e = some oe) (hc : oe.cls = .ref C) (hq : Q () ⟨h, gs, d, tk, os⟩) :
    wpAny M A (checkBuiltinCall "BaseException.__getattribute__" ⟨[.ref e, nameV], []⟩) Q E ⟨h, gs, d, tk, os⟩ := by
  have hk : builtinKind "BaseException.__getattribute__" = some .slot := by decide +kernel
  have hs : splitId "BaseException.__getattribute__" = some ("BaseException", "__getattribute__") := by decide +kernel
  have hcB : (Value.ref C :: bm).contains (.type "BaseException") = true := by rw [List.contains_cons, isB, Bool.or_true]
  have ok := F.args_bexc_ga (.ref e) nameV
  simp only [checkBuiltinCall, hk, hs]
  refine wpAny_bind ?_
  unfold isInstance
  repeat (first | (with_reducible refine wpAny_loadPart_at hx ?_; rw [hc]) | (with_reducible refine wpAny_isSubtype_exc hC ?_; rw [hcB]) | wp_step)
  exact hq
/-- an attribute of an own exception that its own dict holds -/
theorem get_thrown {expr : Bool} {Q : Value → Shared → Prop} (X : K.In h) (q : ktsIn K C "BaseException" = true) (I : InstAt h e oe C (some od)) (hga : findIn K (.ref C) "__getattribute__" = some (some (.builtin "BaseException.__getattribute__")))
    (hgg : findIn K (.ref C) "__getattr__" = some none) (hh : hasDictIn K C = true) (ha : findIn K (.ref C) name = some attr) (hn : noGet K attr = true) (hl : lookIn name od = some (some (.ref v)))
    (hq : Q (.ref v) ⟨h, gs, d, tk + 1, os⟩) : wpAny (model prog w) A (getAttr (.ref e) name expr) Q E ⟨h, gs, d, tk, os⟩ := by
  have L0 := I.type (M := model prog w)
  have L1 := looks_findIn (M := model prog w) X hga
  have L2 := looks_findIn (M := model prog w) X hgg
  have L3 := looks_find (M := model prog w) X I (findObj_own hh ha hn hl)
  obtain ⟨nm, q', N, bs, bm, hdct, sn, sub, ab, col, dd, k0, k1, k2, k3, k5, newId, hC, hB, _⟩ := kts_cls X q
  have ga := F.excAttr_ValueError.ga
  have f3 := ga.bind (.ref e)
  have hx0 : (expr && onTheHeap (Value.builtin "BaseException.__getattribute__")) = false := by cases expr <;> rfl
  have hx1 : (onTheHeap (Value.ref C) && Value.builtin "BaseException.__getattribute__" == Value.builtin "object.__getattribute__") = false := by
    rw [show (Value.builtin "BaseException.__getattribute__" == Value.builtin "object.__getattribute__") = false by decide +kernel]; rfl
  unfold getAttr getAttrBy
  refine wpAny_bind (wpAny_mkText (wpAny_holding (wpAny_bind (L0.at (wpAny_bind (L1.at ?_))))))
  dsimp only
  rw [if_neg (by rw [hx1]; decide)]
  unfold getAttrByItsOwn hookBefore
  refine wpAny_bind ?_
  rw [if_pos (show onTheHeap (Value.ref C) = true from rfl)]
  refine L2.at ?_
  refine wpAny_bind (wpAny_attempt (wpAny_holding ?_))
  unfold callGetattribute
  rw [if_neg (by rw [hx0]; decide)]
  unfold boundAndCalled
  rw [f3]
  refine wpAny_bind (wpAny_pure ?_)
  refine wpAny_call (codeAny_call_builtin ga.plain F.entry_bexc_ga (ga_check hC hB I.at_ I.cls ?_))
  unfold Builtin.«object.__getattribute__»
  refine wpAny_bind (wpAny_of_eq (a := (Value.ref e, [Value.str name tk])) (by rfl) ?_)
  dsimp only
  refine wpAny_bind (wpAny_of_eq (a := name) (by rfl) ?_)
  refine wpAny_bind (L0.at (wpAny_bind (L3.at ?_)))
  refine wpAny_pure ?_
  show wpAny _ _ (handedOut (Value.ref v)) _ _ _
  rw [handedOut_of (show handedIn (Value.ref v) = true from rfl)]
  exact wpAny_pure hq
end
end
section
open PySem PySem.W PySem.Spec PySem.Calls PyProof.Rows
set_option maxRecDepth 100000
set_option maxHeartbeats 0
section
variable {w : World} {s : Shared} {g : Heap} {L : Addr} {m : Str → Option Value} {news : List (Addr × Obj)}
theorem thrown_use (E1 E2 E3 : Env) (t1 t2 : Tok) (Q E : Value → Shared → Prop) (F : Fr g L s.heap m) (X : (Mine.keepK.heap_208 w.params).In g) (N : News g L s.heap news)
    (hret : ∀ (e dx v kd em : Addr) (a0 x : Value) (od : Obj) (u1 u2 : Tok) (h' : Heap) (tk' : Nat), h'.get? e = some (thrO dx a0) → g.get? e = none →
      (∀ q ∈ (v, tupO [.str (Str.ofString "struct") u1, .ref kd, x]) :: (kd, tupO [.str (Str.ofString "name") u2, .str (Str.ofString "ArgumentError") t1, .ref em]) :: (em, tupO []) :: (dx, od) :: news, q.1 ≠ e) →
      lookIn (Str.ofString "value") od = some (some (.ref v)) → Fr g L h' m →
      News g L h' ((v, tupO [.str (Str.ofString "struct") u1, .ref kd, x]) :: (kd, tupO [.str (Str.ofString "name") u2, .str (Str.ofString "ArgumentError") t1, .ref em]) :: (em, tupO []) :: (dx, od) :: news) →
      Q (.ref e) { s with heap := h', toks := tk' }) :
    wpAny (model Challenge.rw_xm0682_01.row.prog w) (((callerA.deeper E1).deeper E2).deeper E3) (call (.ref 82) [.str (Str.ofString "ArgumentError") t1, .str (Str.ofString "a range cannot have a step of 0") t2]) Q E s := by
  obtain ⟨h, gs, d, tk, os⟩ := s
  refine thrown_tells E1 E2 E3 t1 t2 h gs d tk os Q E (X.keeps F.keep) ?_
  intro e dx v kd em a0 x od u1 u2 h' tk' hk he hen hd hdn _ hl hv hvn hkd hkn hem hen' n1 n2 n3 n4
  have gone : ∀ b, h.get? b = none → g.get? b = none := fun b hb => kts_none F.keep hb
  have notL : ∀ b, h.get? b = none → b ≠ L := fun b hb z => by
    obtain ⟨o, _, _, ho, _⟩ := F.ns
    rw [z] at hb
    rw [hb] at ho
    cases ho
  have F' : Fr g L h' m := by
    obtain ⟨o, es, ep, ho, r⟩ := F.ns
    exact ⟨⟨o, es, ep, hk _ _ ho, r⟩, fun b o q => hk _ _ (F.keep b o q), F.above⟩
  refine hret e dx v kd em a0 x od u1 u2 h' tk' he (gone _ hen) (fun q hq => ?_) hl F' fun q hq => ?_
  · rcases List.mem_cons.mp hq with rfl | hq
    · exact Ne.symm n2
    rcases List.mem_cons.mp hq with rfl | hq
    · exact Ne.symm n3
    rcases List.mem_cons.mp hq with rfl | hq
    · exact Ne.symm n4
    rcases List.mem_cons.mp hq with rfl | hq
    · exact Ne.symm n1
    · intro z
      have y := (N q hq).1
      rw [z, hen] at y
      cases y
  · rcases List.mem_cons.mp hq with rfl | hq
    · exact ⟨hv, notL _ hvn, gone _ hvn⟩
    rcases List.mem_cons.mp hq with rfl | hq
    · exact ⟨hkd, notL _ hkn, gone _ hkn⟩
    rcases List.mem_cons.mp hq with rfl | hq
    · exact ⟨hem, notL _ hen', gone _ hen'⟩
    rcases List.mem_cons.mp hq with rfl | hq
    · exact ⟨hd, notL _ hdn, gone _ hdn⟩
    · exact ⟨hk _ _ (N q hq).1, (N q hq).2.1, (N q hq).2.2⟩
theorem thrower_of {K : Frag} {e C dx : Addr} {a0 : Value} {h : Heap} {gs : Array GenState} {d : Drawn} {tk : Nat} {os : OsState} {E : Value → Shared → Prop} (X : K.In h) (q : ktsIn K C "BaseException" = true) (he : h.get? e = some { cls := .ref C, dict := some dx, data := .fields #[a0, .none, .none, .none, .bool false, .none] })
    (hE : E (.ref e) ⟨h, gs, d, tk, os⟩) : Thrower C E (.ref e) ⟨h, gs, d, tk, os⟩ := by
  obtain ⟨nm, q', N, bs, bm, hdct, sn, sub, ab, col, dd, k0, k1, k2, k3, k5, newId, hC, hB, _⟩ := kts_cls X q
  exact ⟨e, _, a0, nm, q', N, bs, bm, hdct, sn, sub, ab, col, dd, k0, k1, k2, k3, k5, newId, rfl, hC, hB, he, rfl, rfl, hE⟩
theorem get_use {prog : Program} {A : Around} {E : Value → Shared → Prop} {K : Frag} {C e dx : Addr} {ws : Array Value} {sl : Array (Option Value)} {od : Obj} {name : Str} {v : Addr} {expr : Bool} {attr : Option Value} {Q : Value → Shared → Prop} (F : Fr g L s.heap m) (X : K.In g) (N : News g L s.heap news)
    (h1 : (e, (⟨.ref C, some dx, .fields ws, sl⟩ : Obj)) ∈ news) (h2 : (dx, od) ∈ news) (q : ktsIn K C "BaseException" = true) (hga : findIn K (.ref C) "__getattribute__" = some (some (.builtin "BaseException.__getattribute__"))) (hgg : findIn K (.ref C) "__getattr__" = some none)
    (hh : hasDictIn K C = true) (ha : findIn K (.ref C) name = some attr) (hn : noGet K attr = true) (hl : lookIn name od = some (some (.ref v)))
    (h : Q (.ref v) { s with toks := s.toks + 1 }) : wpAny (model prog w) A (getAttr (.ref e) name expr) Q E s := by
  obtain ⟨hp, gs, d, tk, os⟩ := s
  exact get_thrown (X.keeps F.keep) q ⟨(N _ h1).1, rfl, rfl, (N _ h2).1⟩ hga hgg hh ha hn hl h
end
end
section
open PySem PySem.W PySem.Spec PySem.Calls PyProof.Rows
set_option maxRecDepth 100000
set_option maxHeartbeats 4000000
theorem refused_tells {w : World} {p : Program} {loose : List Str} {mean : ExcName → Option Value} {mg mb : Str → Option Value}
    (t1 t2 : Tok) (cn : Str) (cs : Scope) (a : Addr) (ccd : Value) (cl : List (Str × Addr)) (base h₀ : Heap) (L : Addr) (m : Str → Option Value) (news : List (Addr × Obj)) (s : Shared) (Q E : Value → Shared → Prop)
    (B : Below callerA base [] h₀) (F : Fr h₀ L s.heap m) (X : (Mine.keepK.heap_208 w.params).In h₀) (N : News h₀ L s.heap news) (T : Top p loose mean mg mb h₀) (hk : cs.kind = .function)
    (hret : ∀ (h' : Heap) (tk' : Nat), Fr h₀ L h' m → News h₀ L h' news → Q (.bool true) { s with heap := h', toks := tk' }) :
    wpAny (model Challenge.rw_xm0682_01.row.prog w) (callerA.deeper (envX cn cs L a ccd cl)) (call (.ref 180) [.int 1 t1, .int 5 t2]) Q E s := by
  revert X
  k_fill
  intro X
  k_with_none
  w_top off
  k_with "exec Raise some none" => (k_here; k_dflt (refine raise_thrown (C := 52) rfl ?_))
  k_with "call ref" => (k_here; (with_reducible show wpAny _ _ (call (Value.ref 82) _) _ _ _); k_dflt (refine thrown_use _ _ _ _ _ _ _ (by k_asm) (by k_asm) (by k_asm) ?_); intro e9 dx9 v9 kd9 em9 a9 x9 od9 u9 w9 h9 tk9 he9 hen9 hne9 hl9 F9 N9; (k_dflt (refine thrower_of (K := Mine.keepK.heap_208 _) (Frag.In.keeps (by k_asm) (Fr.keep F9)) (by kts_isx) he9 ?_)); (try k_unfold); (try dsimp only); (try k_fold))
  k_with "leaving ref" => (k_here; (rename ((_ : Option Obj) = some (thrO _ _)) => he8); (k_dflt (refine leave_thrown (by assumption) (by assumption) (by assumption) he8 (by assumption) (by assumption) rfl rfl rfl rfl ?_)); intro h8 R8 D8 U8; (try dsimp only at R8 D8 U8 ⊢))
  k_with "noteFrame ref" => (k_here; (rename RaisedSN _ _ _ _ _ _ _ => R8); (k_dflt (refine caught_thrown R8 (by assumption) (by assumption) (by assumption) (by assumption) (by assumption) (by assumption) (by assumption) KtsTurn.refl (by k_is) (by kts_isx) ?_)); intro h7 g7 oe7 ws7 tk7 T7 F7 N7 c7 d7 f7 B7 X7 P7 D7; (obtain ⟨oc7, od7, dt7, sl7⟩ := oe7; dsimp only at c7 d7 f7; subst c7 d7 f7); (try dsimp only); (try k_lift B7); (try k_sweep))
  k_with "getAttr ref" => (k_here; (with_reducible show wpAny _ _ (getAttr (Value.ref _) _ _) _ _ _); (rename (lookIn _ _ = some (some (Value.ref _))) => hl8); k_dflt (refine get_use (K := Mine.keepK.heap_208 _) (C := 52) (by k_asm) (by k_asm) (by k_asm) (by k_mem) (by k_mem) (by kts_isx) (by k_is) (by k_is) (by k_is) (by k_is) (by k_is) hl8 ?_))
  refine wpAny_call ?_
  k_dflt (refine' enter_try ?k1 ?k2 ?k3 ?k4 ?k5 ?kA ?kF ?kK ?k6 ?k7 ?k8 ?k9 ?kB ?_ ?c2 ?c3 ?c4 ?c5; (case kA => exact rfl); (case kF => exact rfl); (case kK => assumption); (case k1 => k_asm); (case k2 => k_asm); (case k3 => k_asm); (case k4 => k_asm); (case k5 => k_asm); (case k6 => k_is); (case k7 => k_is); (case k8 => ktr_room); (case k9 => exact BindsTo.of_eq rfl); (case c5 => decide); (case kB => exact locs rfl); (case c2 => exact rfl); (case c3 => exact rfl); (case c4 => exact rfl); k_whole; intro g' L' h' FG' F' N' B' X' T' D'; (try dsimp only); (try k_lift B'); (try k_fold))
  k_steps
  rename News _ _ _ _ => N5
  exact hret _ _ (by assumption) fun q hq => N5 q (by repeat (first | exact hq | apply List.mem_cons_of_mem))
end
section
open PySem PySem.W PySem.Spec PySem.Calls PyProof.Rows
set_option maxRecDepth 100000
set_option maxHeartbeats 8000000
def lawBody : List Stmt := match PySem.Challenge.pw_xm0682_01.main.body.getLast? with
  | some (.FunctionDef _ _ b _ _ _ _ _ _ _) => b
  | _ => []
def lawScope : Scope := match PySem.Challenge.pw_xm0682_01.main.body.getLast? with
  | some (.FunctionDef _ _ _ _ _ _ sc _ _ _) => sc
  | _ => default
def forBody (i : Nat) : List Stmt := match lawBody[i]? with
  | some (.For _ _ b _ _) => b
  | _ => []

theorem fr_src {h₀ h : Heap} {L src : Addr} {m : Str → Option Value} (F : Fr h₀ L h m) (e : m (Str.ofString "source") = some (.ref src)) : Fr h₀ L h (fun z => if z = Str.ofString "source" then some (.ref src) else m z) := by
  have : (fun z => if z = Str.ofString "source" then some (.ref src) else m z) = m := by
    funext z
    split
    · next hz => rw [hz, e]
    · rfl
  rw [this]; exact F
theorem three_of {h₀ h : Heap} {L a b c : Addr} {oa ob oc : Obj} {news own : List (Addr × Obj)} (N : News h₀ L h news) (h1 : (a, oa) ∈ news) (h2 : (b, ob) ∈ news) (h3 : (c, oc) ∈ news) (h4 : ∀ p ∈ own, p ∈ news) : News h₀ L h ((a, oa) :: (b, ob) :: (c, oc) :: own) := by
  intro p hp
  simp only [List.mem_cons] at hp
  rcases hp with rfl | rfl | rfl | hp
  · exact N _ h1
  · exact N _ h2
  · exact N _ h3
  · exact N _ (h4 p hp)
abbrev lst (x y : Int) (tx ty : Tok) (c : Nat) : Obj := listOf #[.int x tx, .int y ty] c
theorem turn1 {w : World} {p : Program} {loose : List Str} {mean : ExcName → Option Value} {mg mb : Str → Option Value}
    (L : Addr) (x y : Int) (tx ty : Tok) (c : Nat) (src : Addr) (oa ob : Obj) (va vb : Option Value) (own : List (Addr × Obj)) (ho : OwnOff own [src, L + 1 + 1, L + 1]) (u : Str → Option Value) (hx : 0 ≤ x) (hy : 0 ≤ y) (hy2 : y < 2147483647)
    (fa : Addr) (cd : Value) (base h₀ : Heap) (s : Shared) (Q : Flow → Shared → Prop) (E : Value → Shared → Prop) (hL1 : @LT.lt Nat _ (L + 1) src) (hL2 : @LT.lt Nat _ (L + 1 + 1) src) (da : oa.data = .cell va) (db : ob.data = .cell vb)
    (B : Below callerA base [] h₀) (F : Fr h₀ L s.heap (fun z => if z = Str.ofString "source" then some (.ref src) else u z)) (X : (Mine.keepK.heap_208 w.params).In h₀) (N : News h₀ L s.heap ((src, listOf #[.int x tx, .int y ty] c) :: (L + 1 + 1, ob) :: (L + 1, oa) :: own)) (T : Top p loose mean mg mb h₀)
    (hret : ∀ (x' y' : Int) (tx' ty' : Tok) (c' : Nat) (oa' ob' : Obj) (va' vb' : Option Value) (u' : Str → Option Value) (h' : Heap) (tk' : Nat), 0 ≤ x' → 0 ≤ y' → y' < 2147483647 → oa'.data = .cell va' → ob'.data = .cell vb' →
      Fr h₀ L h' (fun z => if z = Str.ofString "source" then some (.ref src) else u' z) → News h₀ L h' ((src, listOf #[.int x' tx', .int y' ty'] c') :: (L + 1 + 1, ob') :: (L + 1, oa') :: own) → Q .next { s with heap := h', toks := tk' }) :
    wpAny (model Challenge.rw_xm0682_01.row.prog w) (callerA.deeper (envOfC (Str.ofString "law") lawScope L fa cd)) (execs (forBody 2) (envOfC (Str.ofString "law") lawScope L fa cd)) Q E s := by
  revert X
  k_fill
  intro X
  k_with_none
  w_top off
  k_with "call ref" => (k_here; first | ((with_reducible show wpAny _ _ (call (Value.ref 145) _) _ _ _); k_dflt (refine take_line (by k_asm) (by k_asm) (by k_asm) (by k_asm) (by k_asm) rfl (by k_upd) (by assumption) (by assumption) (by assumption) (by first | omega | decide) (by (rw [big_eq]; first | omega | decide)) ?_); intro v9 x9 y9 u9 w9 z9 c9 h9 tk9 e9 f9 a9 b9 d9 F9 N9; (k_dflt (have N8 := N9 _ (by k_upd))); clear N9; (try dsimp only); (try k_fold)) | ((with_reducible show wpAny _ _ (call (Value.ref 152) _) _ _ _); k_dflt (refine one_line (by k_asm) (by k_asm) (by k_asm) (by k_asm) (by k_asm) rfl (by k_upd) (by assumption) (by assumption) (by assumption) (by k_mem) (by k_ne) ?_); intro v9 x9 y9 u9 w9 z9 c9 h9 tk9 e9 a9 b9 d9 F9 N9; (k_dflt (have N8 := N9 _ (by k_upd))); clear N9; (try dsimp only); (try k_fold)) | ((with_reducible show wpAny _ _ (call (Value.ref 166) _) _ _ _); first | (k_dflt (refine rowup_line (by k_asm) (by k_asm) (by k_asm) (by k_asm) (by k_asm) rfl (by omega) (by omega) (by omega) (by omega) (by omega) (by omega) ?_); intro t9 h9 tk9 F9 N9; (try dsimp only); (try k_fold)) | (k_dflt (refine rowdn_line (by k_asm) (by k_asm) (by k_asm) (by k_asm) (by k_asm) rfl (by omega) (by omega) (by omega) (by omega) (by omega) (by omega) ?_); intro t9 h9 tk9 F9 N9; (try dsimp only); (try k_fold))) | ((with_reducible show wpAny _ _ (call (Value.ref 173) _) _ _ _); k_dflt (refine told_line (by k_asm) (by k_asm) (by k_asm) (by k_asm) (by k_asm) rfl (by omega) (by omega) (by (rw [big_eq]; omega)) (by (rw [big_eq]; omega)) (by rfl) ?_); intro t9 h9 tk9 F9 N9; (try dsimp only); (try k_fold)))
  k_with "binaryOp Mult int int" => (k_here; first | ((with_reducible refine mul_step (by assumption) (by assumption) (by assumption) ?_); intro g9 i9 j9 k9) | ((with_reducible refine mul_reach (by assumption) (by assumption) (by assumption) (by assumption) ?_); intro g9 i9 j9))
  k_with "call builtin:abs" => (k_here; (with_reducible refine abs_step (by assumption) (by assumption) (by assumption) ?_); intro b9 u9 k9 i9 j9)
  k_with "eval Call" => (k_here; (with_reducible show wpAny _ _ (eval (PySem.Expr.Call (PySem.Expr.Name (PySem.Str.ofString "_law_row_right") _) _ _ _) _) _ _ _); (fail_if_success (rename JoinMark => jm9)); k_dflt (refine join_true (by k_asm) (by k_asm) ?_ ?_); (intro jm9; rotate_left; intro h9 tk9 F9 N9; (try dsimp only); (try k_fold); rotate_right))
  k_with "JoinTrue" => (refine join_end (by assumption) (by assumption) ?_; first | exact fun p hp => hp | exact fun p hp => List.mem_cons_of_mem _ hp | exact fun p hp => List.mem_cons_of_mem _ (List.mem_cons_of_mem _ hp))
  k_with "eval IfExp" => (k_here; with_reducible refine IfExp_ ?_)
  k_with "exec Assign cons ListComp" => (k_here; k_dflt (refine LCt.Assign_ListComp_T (F₀ := by k_asm) (by rfl) (by with_unfolding_all rfl) (by with_unfolding_all rfl) (by decide) (by rfl) (by decide) (by rfl) (by rfl) (by rfl) ?_))
  k_with "CompSrcT" => (k_here; k_dflt (refine comp_gcd ?_ ?_ ?_ ?_ (by rfl) (by k_asm) (by k_asm) (by assumption) ?_ ?_); (all_goals try omega); (intro k' t' I' oI' C' oC' D' m' ys' l' h' tk' E' hlo' hhi' hI' hC' hx' F' N' off' ne' hMark'; (have off8 := off'); (try (simp only [LCg.Off3, and_true] at off')); (try k_fold); rotate_left; intro g9 zs9 ys9 hz9 hI9; (try k_fold); rotate_right))
  k_with "CompEnd" => ((with_reducible show LCg.CompEnd _ _ _ _ _ _ _ _ _ _ _ _ _ _); (rename LCg.Off3 _ _ _ ((_, _) :: _) => off7); (with_unfolding_all refine LCg.CompEnd.intro (by assumption) (by assumption) _ (fun p hp => hp) off7 True.intro ?_))
  k_with "KCiEl" => (kpf_tidy; (refine kci_el (gcd_el (by assumption) (by assumption)) (by with_unfolding_all rfl) (by with_unfolding_all rfl)))
  k_with "KCiNo" => (kpf_tidy; (refine kci_no (gcd_no (by first | exact Or.inl (by assumption) | exact Or.inr (by assumption))) (by with_unfolding_all rfl)))
  k_with "subscriptTail Name UnaryOp ref int" => (k_here; (with_reducible show wpAny _ _ (subscriptTail _ _ (Value.ref _) (Value.int _ _)) _ _ _); (with_unfolding_all refine gcd_last (by is_list) (by assumption) ?_ (by with_unfolding_all rfl)); intro t9)
  conv in (forBody 2) => whnf
  conv in (occs := *) lawScope => all_goals whnf
  repeat' (first | (k_unfold; (try dsimp only)) | ((with_reducible show LCg.CompEnd _ _ _ _ _ _ _ _ _ _ _ _ _ _); (rename LCg.Off3 _ _ _ ((_, _) :: _) => off7); (with_unfolding_all refine LCg.CompEnd.intro (by assumption) (by assumption) _ (fun p hp => hp) off7 True.intro ?_)) | (k_end; wrow_close) | walk1 | (dsimp only; walk1) | (leave1; try dsimp only))
  rename Fr _ _ _ _ => F9
  rename News _ _ _ _ => N9
  refine hret _ _ _ _ _ _ _ ?va ?vb _ _ _ ?h1 ?h2 ?h3 ?d1 ?d2 (fr_src F9 (by with_unfolding_all rfl)) (three_of N9 (by k_mem) (by k_mem) (by k_mem) (by intro p hp; k_ownIn))
  case d1 => assumption
  case d2 => assumption
  case h1 => assumption
  case h2 => assumption
  case h3 => assumption
end
section
open PySem PySem.W PySem.Spec PySem.Calls PyProof.Rows
set_option maxRecDepth 100000
set_option maxHeartbeats 8000000
section
variable {prog : Program} {w : World} {A : Around} {E : Value → Shared → Prop} {s : Shared} {Q : Value → Shared → Prop}
theorem mul_told {a b : Int} {t t' : Tok} (a0 : 0 ≤ a) (a1 : a < 2 ^ 70) (b0 : 1 ≤ b) (b1 : b ≤ 2 ^ 71) (h : ∀ g : Int, g = (1 + a) * b → 1 ≤ g → g < big → Q (.int g s.toks) { s with toks := s.toks + 1 }) :
    wpAny (model prog w) A (binaryOp .Mult (.int (1 + a) t) (.int b t')) Q E s := by
  refine mul_int (h _ rfl ?_ ?_) (mulOk_of_abs (lt_big (by omega) ?_) (lt_big (by omega) ?_))
  · have : 1 * 1 ≤ (1 + a) * b := Int.mul_le_mul (by omega) b0 (by decide) (by omega)
    omega
  · have : (1 + a) * b ≤ 2 ^ 70 * 2 ^ 71 := Int.mul_le_mul (by omega) b1 (by omega) (by decide)
    rw [big_eq]
    refine Int.lt_of_le_of_lt this (by decide)
  · rw [big_eq]; refine Int.lt_of_le_of_lt (show 1 + a ≤ 2 ^ 70 by omega) (by decide)
  · rw [big_eq]; refine Int.lt_of_le_of_lt b1 (by decide)
theorem lt70 {v : Int} (h : v < 2 ^ Int.toNat 70) : v < 1180591620717411303424 := by
  have e : (2 : Int) ^ Int.toNat 70 = 1180591620717411303424 := by decide
  rwa [e] at h
theorem lt20 {v : Int} (h : v < 2 ^ Int.toNat 20) : v < 1048576 := by
  have e : (2 : Int) ^ Int.toNat 20 = 1048576 := by decide
  rwa [e] at h
theorem told_gcd1 {a b x y : Int} (a0 : 0 ≤ a) (hx : x = (1 + a) * b) (hy : y = (1 + a) * (b + 1)) : 1 + a = (Int.gcd x y : Int) := by
  rw [hx, hy, Int.gcd_mul_left]
  have h1 : Int.gcd b (b + 1) = 1 := by
    have := Int.gcd_dvd_right (a := b) (b := b + 1)
    have h2 : ((Int.gcd b (b + 1) : Nat) : Int) ∣ 1 := by
      have h9 := Int.dvd_sub this (Int.gcd_dvd_left (a := b) (b := b + 1))
      have e : (b + 1) - b = (1 : Int) := by omega
      rwa [e] at h9
    have h3 : Int.gcd b (b + 1) ∣ 1 := by exact_mod_cast h2
    exact Nat.dvd_one.mp h3
  rw [h1]
  omega
theorem told_gcd2 {a b x y : Int} (a0 : 0 ≤ a) (hx : x = (1 + a) * b) (hy : y = (1 + a) * (b + 1)) : 1 + a = (Int.gcd y x : Int) := by
  rw [Int.gcd_comm]; exact told_gcd1 a0 hx hy
end
theorem turn2 {w : World} {p : Program} {loose : List Str} {mean : ExcName → Option Value} {mg mb : Str → Option Value}
    (L : Addr) (x y : Int) (tx ty : Tok) (c : Nat) (src : Addr) (oa ob : Obj) (va vb : Option Value) (own : List (Addr × Obj)) (ho : OwnOff own [src, L + 1 + 1, L + 1]) (u : Str → Option Value) (hx : 0 ≤ x) (hy : 0 ≤ y) (hy2 : y < 2147483647)
    (fa : Addr) (cd : Value) (base h₀ : Heap) (s : Shared) (Q : Flow → Shared → Prop) (E : Value → Shared → Prop) (hL1 : @LT.lt Nat _ (L + 1) src) (hL2 : @LT.lt Nat _ (L + 1 + 1) src) (da : oa.data = .cell va) (db : ob.data = .cell vb)
    (B : Below callerA base [] h₀) (F : Fr h₀ L s.heap (fun z => if z = Str.ofString "source" then some (.ref src) else u z)) (X : (Mine.keepK.heap_208 w.params).In h₀) (N : News h₀ L s.heap ((src, listOf #[.int x tx, .int y ty] c) :: (L + 1 + 1, ob) :: (L + 1, oa) :: own)) (T : Top p loose mean mg mb h₀)
    (hret : ∀ (x' y' : Int) (tx' ty' : Tok) (c' : Nat) (oa' ob' : Obj) (va' vb' : Option Value) (u' : Str → Option Value) (h' : Heap) (tk' : Nat), 0 ≤ x' → 0 ≤ y' → y' < 2147483647 → oa'.data = .cell va' → ob'.data = .cell vb' →
      Fr h₀ L h' (fun z => if z = Str.ofString "source" then some (.ref src) else u' z) → News h₀ L h' ((src, listOf #[.int x' tx', .int y' ty'] c') :: (L + 1 + 1, ob') :: (L + 1, oa') :: own) → Q .next { s with heap := h', toks := tk' }) :
    wpAny (model Challenge.rw_xm0682_01.row.prog w) (callerA.deeper (envOfC (Str.ofString "law") lawScope L fa cd)) (execs (forBody 3) (envOfC (Str.ofString "law") lawScope L fa cd)) Q E s := by
  revert X
  k_fill
  intro X
  k_with_none
  w_top off
  k_with "call ref" => (k_here; first | ((with_reducible show wpAny _ _ (call (Value.ref 145) _) _ _ _); k_dflt (refine take_line (by k_asm) (by k_asm) (by k_asm) (by k_asm) (by k_asm) rfl (by k_upd) (by assumption) (by assumption) (by assumption) (by first | omega | decide) (by (rw [big_eq]; first | omega | decide)) ?_); intro v9 x9 y9 u9 w9 z9 c9 h9 tk9 e9 f9 a9 b9 d9 F9 N9; (k_dflt (have N8 := N9 _ (by k_upd))); clear N9; (first | (have f8 := lt70 f9; clear f9) | (have f8 := lt20 f9; clear f9) | skip); (try dsimp only); (try k_fold)) | ((with_reducible show wpAny _ _ (call (Value.ref 173) _) _ _ _); k_dflt (refine told_line (by k_asm) (by k_asm) (by k_asm) (by k_asm) (by k_asm) rfl (by assumption) (by assumption) (by assumption) (by assumption) (by first | exact told_gcd1 (by assumption) (by assumption) (by assumption) | exact told_gcd2 (by assumption) (by assumption) (by assumption)) ?_); intro t9 h9 tk9 F9 N9; (try dsimp only); (try k_fold)))
  k_with "binaryOp Mult int int" => (k_here; (with_reducible refine mul_told (by assumption) (by omega) (by omega) (by omega) ?_); intro g9 e9 i9 j9)
  conv in (forBody 3) => whnf
  conv in (occs := *) lawScope => all_goals whnf
  repeat' (first | (k_unfold; (try dsimp only)) | (k_end; wrow_close) | walk1 | (dsimp only; walk1) | (leave1; try dsimp only))
  rename Fr _ _ _ _ => F9
  rename News _ _ _ _ => N9
  refine hret _ _ _ _ _ _ _ ?va ?vb _ _ _ ?h1 ?h2 ?h3 ?d1 ?d2 (fr_src F9 (by with_unfolding_all rfl)) (three_of N9 (by k_mem) (by k_mem) (by k_mem) (by intro p hp; k_ownIn))
  case d1 => assumption
  case d2 => assumption
  case h1 => assumption
  case h2 => assumption
  case h3 => assumption
end
section
open PySem PySem.W PySem.Spec PySem.Calls PyProof.Rows
set_option maxRecDepth 100000
set_option maxHeartbeats 8000000

section
variable {prog : Program} {w : World} {A : Around} {E : Value → Shared → Prop} {s : Shared} {Q : Value → Shared → Prop}
def fibG (p : Int × Int) (_ : Int) : Int × Int := (p.2, p.1 + p.2)
theorem fib_fold : ∀ n : Nat, ∃ p : Int × Int, (rangeKs 0 n).foldl fibG (1, 1) = p ∧ 1 ≤ p.1 ∧ p.1 ≤ p.2 ∧ p.2 ≤ 2 ^ n ∧ Int.gcd p.2 p.1 = 1 := by
  intro n
  induction n with
  | zero => exact ⟨(1, 1), rfl, by decide, by decide, by decide, by decide⟩
  | succ n ih =>
    obtain ⟨p, e, h1, h2, h3, h4⟩ := ih
    refine ⟨(p.2, p.1 + p.2), ?_, ?_, ?_, ?_, ?_⟩
    · rw [rangeKs_succ, List.foldl_append, e]; rfl
    · show 1 ≤ p.2; omega
    · show p.2 ≤ p.1 + p.2; omega
    · show p.1 + p.2 ≤ 2 ^ (n + 1)
      rw [Int.pow_succ]; omega
    · show Int.gcd (p.1 + p.2) p.2 = 1
      rw [Int.gcd_comm] at h4
      simpa using h4
theorem two_pow_le {n : Nat} (h : n ≤ 60) : (2 : Int) ^ n ≤ 2 ^ 60 := by
  have := Nat.pow_le_pow_right (show 0 < 2 by decide) h
  exact_mod_cast this
theorem mul_fib {a b : Int} {t t' : Tok} (a0 : 0 ≤ a) (a1 : a < 1048576) (b0 : 1 ≤ b) (b1 : b ≤ 2 ^ 60) (h : ∀ g : Int, g = (1 + a) * b → 1 ≤ g → g < big → Q (.int g s.toks) { s with toks := s.toks + 1 }) :
    wpAny (model prog w) A (binaryOp .Mult (.int (1 + a) t) (.int b t')) Q E s := mul_told a0 (by omega) b0 (by omega) h
theorem fib_gcd {a b c x y : Int} (a0 : 0 ≤ a) (hg : Int.gcd b c = 1) (hx : x = (1 + a) * b) (hy : y = (1 + a) * c) : 1 + a = (Int.gcd x y : Int) := by
  rw [hx, hy, Int.gcd_mul_left, hg]; omega
end
end
section
open PySem PySem.W PySem.Spec PySem.Calls PyProof.Rows
set_option maxRecDepth 100000
set_option maxHeartbeats 8000000


section
variable {prog : Program} {w : World} {A : Around} {E : Value → Shared → Prop} {s : Shared} {env : Env} {h₀ : Heap} {xx : Str} {body : List Stmt} {Q : Flow → Shared → Prop}
/-- what every turn keeps -/
def TurnR (L src : Addr) (m : Str → Option Value) (nx : List (Addr × Obj)) : Prop :=
  ∃ (x y : Int) (tx ty : Tok) (c : Nat) (oa ob : Obj) (va vb : Option Value), 0 ≤ x ∧ 0 ≤ y ∧ y < 2147483647 ∧ oa.data = .cell va ∧ ob.data = .cell vb ∧
    nx = [(src, listOf #[.int x tx, .int y ty] c), (L + 1 + 1, ob), (L + 1, oa)] ∧ m (Str.ofString "source") = some (.ref src)
theorem iter_turn {r src : Addr} {b : Int} {t u v : Tok} {n : Nat} {m : Str → Option Value} {news : List (Addr × Obj)} {x y : Int} {tx ty : Tok} {c : Nat} {oa ob : Obj} {va vb : Option Value}
    {L : Addr} (hL : env.locals = L) (hh : A.handled = none) (hr : IsRange s.heap r 0 b 1 t u v) (hsm : Builtin.Range.small 0 b 1 = true) (hn : Builtin.Range.rangeSize 0 b 1 = (n : Int)) (F : Fr h₀ L s.heap m) (N : News h₀ L s.heap news)
    (hs : m (Str.ofString "source") = some (.ref src)) (hx : 0 ≤ x) (hy : 0 ≤ y) (hy2 : y < 2147483647) (m1 : (src, listOf #[.int x tx, .int y ty] c) ∈ news) (m2 : (L + 1 + 1, ob) ∈ news) (m3 : (L + 1, oa) ∈ news) (da : oa.data = .cell va) (db : ob.data = .cell vb)
    (hxx : xx ≠ Str.ofString "source")
    (turn : ∀ (x y : Int) (tx ty : Tok) (c : Nat) (oa ob : Obj) (va vb : Option Value) (own : List (Addr × Obj)) (u : Str → Option Value) (h : Heap) (tk : Nat) (Q' : Flow → Shared → Prop), 0 ≤ x → 0 ≤ y → y < 2147483647 → oa.data = .cell va → ob.data = .cell vb → OwnOff own [src, L + 1 + 1, L + 1] →
      Fr h₀ L h (fun z => if z = Str.ofString "source" then some (.ref src) else u z) → News h₀ L h ((src, listOf #[.int x tx, .int y ty] c) :: (L + 1 + 1, ob) :: (L + 1, oa) :: own) →
      (∀ (x' y' : Int) (tx' ty' : Tok) (c' : Nat) (oa' ob' : Obj) (va' vb' : Option Value) (u' : Str → Option Value) (h' : Heap) (tk' : Nat), 0 ≤ x' → 0 ≤ y' → y' < 2147483647 → oa'.data = .cell va' → ob'.data = .cell vb' →
        Fr h₀ L h' (fun z => if z = Str.ofString "source" then some (.ref src) else u' z) → News h₀ L h' ((src, listOf #[.int x' tx', .int y' ty'] c') :: (L + 1 + 1, ob') :: (L + 1, oa') :: own) → Q' .next { s with heap := h', toks := tk' }) →
      wpAny (model prog w) A (execs body env) Q' E { s with heap := h, toks := tk })
    (done : ∀ (x y : Int) (tx ty : Tok) (c : Nat) (oa ob : Obj) (va vb : Option Value) (u : Str → Option Value) (h : Heap) (tk : Nat), 0 ≤ x → 0 ≤ y → y < 2147483647 → oa.data = .cell va → ob.data = .cell vb →
      Fr h₀ L h (fun z => if z = Str.ofString "source" then some (.ref src) else u z) → News h₀ L h [(src, listOf #[.int x tx, .int y ty] c), (L + 1 + 1, ob), (L + 1, oa)] → Q .next { s with heap := h, toks := tk }) :
    wpAny (model prog w) A (pyIter (.ref r)) (fun it s₂ => LoopAtV prog w A h₀ env xx body Q E it s₂) E s := by
  subst hL
  refine iter_rangeS (σ := Unit) (news := [(src, listOf #[.int x tx, .int y ty] c), (env.locals + 1 + 1, ob), (env.locals + 1, oa)]) (fun _ m nx => TurnR env.locals src m nx) (fun _ _ => ()) () hh hr hsm hn F (three_of N m1 m2 m3 (fun p hp => absurd hp List.not_mem_nil)) ⟨x, y, tx, ty, c, oa, ob, va, vb, hx, hy, hy2, da, db, rfl, hs⟩ ?_ ?_
  · rintro k t a m₁ nx h tk own _ hoff ⟨x, y, tx, ty, c, oa, ob, va, vb, hx, hy, hy2, da, db, rfl, hs⟩ F₁ N₁
    have F₂ := fr_src F₁ (src := src) ((if_neg (Ne.symm hxx)).trans hs)
    refine turn x y tx ty c oa ob va vb own _ h tk _ hx hy hy2 da db hoff F₂ N₁ ?_
    intro x' y' tx' ty' c' oa' ob' va' vb' u' h' tk' hx' hy' hy2' da' db' F' N'
    exact ⟨h', tk', _, _, [(src, listOf #[.int x' tx', .int y' ty'] c'), (env.locals + 1 + 1, ob'), (env.locals + 1, oa')], rfl, F', N', fun p hp => List.mem_append_left own hp, fun p hp => List.mem_append_right [(src, listOf #[.int x' tx', .int y' ty'] c'), (env.locals + 1 + 1, ob'), (env.locals + 1, oa')] hp, rfl, x', y', tx', ty', c', oa', ob', va', vb', hx', hy', hy2', da', db', rfl, if_pos rfl⟩
  · rintro m₁ nx h tk ⟨x, y, tx, ty, c, oa, ob, va, vb, hx, hy, hy2, da, db, rfl, hs⟩ F₁ N₁
    exact done x y tx ty c oa ob va vb _ h tk hx hy hy2 da db (fr_src F₁ hs) N₁
theorem iter_fib {r : Addr} {a : Int} {t u v tc td : Tok} {m : Str → Option Value} {news : List (Addr × Obj)} (h0 : 0 ≤ a) (h1 : a < 20)
    {L : Addr} (hL : env.locals = L) (hh : A.handled = none) (hr : IsRange s.heap r 0 (20 + a) 1 t u v) (F : Fr h₀ L s.heap m) (N : News h₀ L s.heap news) (hy : m (Str.ofString "low") = some (.int 1 tc)) (hy' : m (Str.ofString "high") = some (.int 1 td))
    (turn : ∀ k t a ta b tb h tk own, OwnOff own (news.map (·.1)) → Fr h₀ L h (fun z => if z = xx then some (.int k t) else if z = Str.ofString "low" then some (.int a ta) else if z = Str.ofString "high" then some (.int b tb) else m z) → News h₀ L h (news ++ own) →
      wpAny (model prog w) A (execs body env) (InvPostN h₀ L (fun m' nx => nx = news ∧ (∃ t', m' (Str.ofString "low") = some (.int b t')) ∧ (∃ t', m' (Str.ofString "high") = some (.int (a + b) t')) ∧ ∀ z, z ≠ xx → z ≠ Str.ofString "low" → z ≠ Str.ofString "high" → m' z = m z) own (news.map (·.1)) { s with heap := h, toks := tk } Q) E { s with heap := h, toks := tk })
    (done : ∀ (u : Str → Option Value) (lo hi : Int) t t' h tk, 1 ≤ lo → 1 ≤ hi → lo ≤ 2 ^ 60 → hi ≤ 2 ^ 60 → Int.gcd hi lo = 1 → Int.gcd lo hi = 1 → Fr h₀ L h (fun z => if z = xx then u z else if z = Str.ofString "low" then some (.int lo t) else if z = Str.ofString "high" then some (.int hi t') else m z) → News h₀ L h news → Q .next { s with heap := h, toks := tk }) :
    wpAny (model prog w) A (pyIter (.ref r)) (fun it s₂ => LoopAtV prog w A h₀ env xx body Q E it s₂) E s := by
  subst hL
  obtain ⟨n, rfl⟩ : ∃ n : Nat, a = n := ⟨a.toNat, by omega⟩
  obtain ⟨p, e, q1, q2, q3, q4⟩ := fib_fold (20 + n)
  refine iterRange_acc2 (n := 20 + n) (y := Str.ofString "low") (y' := Str.ofString "high") (fun _ b _ => b) (fun a b _ => a + b) hh hr (small_one (by decide) (by decide) (by omega) (by omega)) ?_ F N hy hy' (fun k t a ta b tb h tk own _ _ hoff F N => turn k t a ta b tb h tk own hoff F N) ?_
  · have := rangeSize_nat 0 (20 + (n : Int))
    rw [this]; omega
  · intro u t t' h tk F N
    have e' : (rangeKs 0 (20 + n)).foldl (fun (p : Int × Int) (_ : Int) => (p.2, p.1 + p.2)) (1, 1) = p := e
    simp only [e'] at F
    have q5 := two_pow_le (n := 20 + n) (by omega)
    exact done u p.1 p.2 t t' h tk q1 (by omega) (by omega) (by omega) q4 (by rw [Int.gcd_comm]; exact q4) F N
end
end
section
open PySem PySem.W PySem.Spec PySem.Calls PyProof.Rows
set_option maxRecDepth 100000
set_option maxHeartbeats 8000000
theorem fib_gcd' {a b c x y : Int} (a0 : 0 ≤ a) (hx : x = (1 + a) * b) (hy : y = (1 + a) * c) (hg : Int.gcd b c = 1) : 1 + a = (Int.gcd x y : Int) := fib_gcd a0 hg hx hy


theorem rest {w : World} {p : Program} {loose : List Str} {mean : ExcName → Option Value} {mg mb : Str → Option Value}
    (L : Addr) (x y : Int) (tx ty : Tok) (c : Nat) (src : Addr) (oa ob : Obj) (va vb : Option Value) (news : List (Addr × Obj)) (u : Str → Option Value) (hx : 0 ≤ x) (hy : 0 ≤ y) (hy2 : y < 2147483647)
    (fa : Addr) (cd : Value) (base h₀ : Heap) (s : Shared) (Q : Flow → Shared → Prop) (E : Value → Shared → Prop) (hL1 : @LT.lt Nat _ (L + 1) src) (hL2 : @LT.lt Nat _ (L + 1 + 1) src) (da : oa.data = .cell va) (db : ob.data = .cell vb)
    (B : Below callerA base [] h₀) (F : Fr h₀ L s.heap (fun z => if z = Str.ofString "source" then some (.ref src) else u z)) (X : (Mine.keepK.heap_208 w.params).In h₀) (N : News h₀ L s.heap news) (T : Top p loose mean mg mb h₀)
    (m1 : (src, listOf #[.int x tx, .int y ty] c) ∈ news) (m2 : (L + 1 + 1, ob) ∈ news) (m3 : (L + 1, oa) ∈ news)
    (hE : PassesOwn (model Challenge.rw_xm0682_01.row.prog w) (callerA.deeper (envOfC (Str.ofString "law") lawScope L fa cd)) (envOfC (Str.ofString "law") lawScope L fa cd) E)
    (hret : ∀ (u' : Str → Option Value) (news' : List (Addr × Obj)) (h' : Heap) (tk' : Nat), Fr h₀ L h' u' → News h₀ L h' news' → Q (.ret (.bool true)) { s with heap := h', toks := tk' }) :
    wpAny (model Challenge.rw_xm0682_01.row.prog w) (callerA.deeper (envOfC (Str.ofString "law") lawScope L fa cd)) (execs (lawBody.drop 2) (envOfC (Str.ofString "law") lawScope L fa cd)) Q E s := by
  revert X
  k_fill
  intro X
  k_with_none
  w_top off
  k_with "call ref" => (k_here; first | ((with_reducible show wpAny _ _ (call (Value.ref 145) _) _ _ _); k_dflt (refine take_line (by k_asm) (by k_asm) (by k_asm) (by k_asm) (by k_asm) rfl (by k_upd) (by assumption) (by assumption) (by assumption) (by first | omega | decide) (by (rw [big_eq]; first | omega | decide)) ?_); intro v9 x9 y9 u9 w9 z9 c9 h9 tk9 e9 f9 a9 b9 d9 F9 N9; (k_dflt (have N8 := N9 _ (by k_upd))); clear N9; (first | (have f8 := lt70 f9; clear f9) | (have f8 := lt20 f9; clear f9) | skip); (try dsimp only); (try k_fold)) | ((with_reducible show wpAny _ _ (call (Value.ref 173) _) _ _ _); k_dflt (refine told_line (by k_asm) (by k_asm) (by k_asm) (by k_asm) (by k_asm) rfl (by assumption) (by assumption) (by assumption) (by assumption) (by exact fib_gcd' (by assumption) (by assumption) (by assumption) (by assumption)) ?_); intro t9 h9 tk9 F9 N9; (try dsimp only); (try k_fold)))
  k_with "binaryOp Mult int int" => (k_here; (with_reducible refine mul_told (by assumption) (by omega) (by omega) (by omega) ?_); intro g9 e9 i9 j9)
  k_with "exec For Name Call cons nil" => (k_here; (rename PassesOwn _ _ _ _ => hE8); (rename Fr _ _ _ _ => lF'); (with_unfolding_all refine For_invVF (hE := hE8) lF' rfl rfl ?_))
  conv in (lawBody.drop 2) => whnf
  conv in (occs := *) lawScope => all_goals whnf
  repeat' (first | (k_unfold; (try dsimp only)) | (k_here; (with_reducible show wpAny _ _ (pyIter (Value.ref _)) (fun it s₂ => LoopAtV _ _ _ _ _ _ [_, _, _, _, _, _] _ _ it s₂) _ _); (rename IsRange _ _ _ _ _ _ _ _ => rgX); (rename Fr _ _ _ _ => F8); (rename News _ _ _ _ => N8); (rename Below _ _ _ _ => B8); (rename Top _ _ _ _ _ _ => T8); (rename Frag.In _ _ => X8); (k_dflt ((refine' iter_turn (by rfl) (by rfl) rgX (by decide) (by rfl) F8 N8 (by rfl) ?hxa ?hya ?hy2a ?m1a ?m2a ?m3a ?daa ?dba (by decide) ?turna ?donea); (case m1a => first | assumption | k_mem); (case m2a => first | assumption | k_mem); (case m3a => first | assumption | k_mem); (case hxa => assumption); (case hya => assumption); (case hy2a => assumption); (case daa => assumption); (case dba => assumption); (case turna => (intro x9 y9 tx9 ty9 c9 oa9 ob9 va9 vb9 own9 u9 h9 tk9 Q9 hx9 hy9 hy29 da9 db9 ho9 F9 N9 hr9; exact turn1 _ x9 y9 tx9 ty9 c9 _ oa9 ob9 va9 vb9 own9 ho9 u9 hx9 hy9 hy29 _ _ _ _ _ Q9 _ (by assumption) (by assumption) da9 db9 B8 F9 X8 N9 T8 hr9)))); clear rgX F8 N8; intro x9 y9 tx9 ty9 c9 oa9 ob9 va9 vb9 u9 h9 tk9 hx9 hy9 hy29 da9 db9 F9 N9; (try dsimp only); (try k_fold)) | (k_here; (with_reducible show wpAny _ _ (pyIter (Value.ref _)) (fun it s₂ => LoopAtV _ _ _ _ _ _ [_, _, _] _ _ it s₂) _ _); (rename IsRange _ _ _ _ _ _ _ _ => rgX); (rename Fr _ _ _ _ => F8); (rename News _ _ _ _ => N8); (rename Below _ _ _ _ => B8); (rename Top _ _ _ _ _ _ => T8); (rename Frag.In _ _ => X8); (k_dflt ((refine' iter_turn (by rfl) (by rfl) rgX (by decide) (by rfl) F8 N8 (by rfl) ?hxb ?hyb ?hy2b ?m1b ?m2b ?m3b ?dab ?dbb (by decide) ?turnb ?doneb); (case m1b => first | assumption | k_mem); (case m2b => first | assumption | k_mem); (case m3b => first | assumption | k_mem); (case hxb => assumption); (case hyb => assumption); (case hy2b => assumption); (case dab => assumption); (case dbb => assumption); (case turnb => (intro x9 y9 tx9 ty9 c9 oa9 ob9 va9 vb9 own9 u9 h9 tk9 Q9 hx9 hy9 hy29 da9 db9 ho9 F9 N9 hr9; exact turn2 _ x9 y9 tx9 ty9 c9 _ oa9 ob9 va9 vb9 own9 ho9 u9 hx9 hy9 hy29 _ _ _ _ _ Q9 _ (by assumption) (by assumption) da9 db9 B8 F9 X8 N9 T8 hr9)))); clear rgX F8 N8; intro x9 y9 tx9 ty9 c9 oa9 ob9 va9 vb9 u9 h9 tk9 hx9 hy9 hy29 da9 db9 F9 N9; (try dsimp only); (try k_fold)) | (k_here; (with_reducible show wpAny _ _ (pyIter (Value.ref _)) (fun it s₂ => LoopAtV _ _ _ _ _ _ [_] _ _ it s₂) _ _); (rename IsRange _ _ _ _ _ _ _ _ => rgX); (rename Fr _ _ _ _ => F8); (rename News _ _ _ _ => N8); (k_dflt ((refine' iter_fib ?h0c ?h1c (by rfl) (by rfl) rgX F8 N8 (by rfl) (by rfl) ?_ ?_); (case h0c => assumption); (case h1c => assumption))); (clear rgX F8 N8; intro k9 t9 a9 ta9 b9 tb9 h9 tk9 own9 ho9 F9 N9; (try dsimp only); (try k_fold)); rotate_left; clear rgX F8 N8; intro u9 lo9 hi9 t9 tt9 h9 tk9 i9 j9 k9 l9 m9 n9 F9 N9; (try dsimp only); (try k_fold); rotate_right) | (k_end; wrow_close) | walk1 | (dsimp only; walk1) | (leave1; try dsimp only))
  all_goals first | exact hret _ _ _ _ (by assumption) (by assumption) | skip
end
section
open PySem PySem.W PySem.Spec PySem.Calls PyProof.Rows
theorem law_silent (args : List WData) (cls : ExcName) : Challenge.rw_xm0682_01.row.claim.raises args cls = false := rfl
theorem law_true (args : List WData) : Challenge.rw_xm0682_01.row.claim.post args (.bool true) args = true := by wrow_post
theorem law_end {cl : Str → Option Addr} {mean : ExcName → Option Value} {args : List WData} {s₁ s' : Shared} {L : Addr} {m : Str → Option Value} (F : Fr s₁.heap L s'.heap m) (hg : s'.gens = #[]) (hos : s'.os = s₁.os) :
    GoodW Challenge.rw_xm0682_01.row.claim cl mean args s₁ (.ok (.ret (.bool true))) s' := goodW_bool F hg (law_silent args) (law_true args) hos
end
section
open PySem PySem.W PySem.Spec PySem.Calls PyProof.Rows
set_option maxRecDepth 100000
set_option maxHeartbeats 0
theorem fr_scr {h₀ h : Heap} {L sl : Addr} {m : Str → Option Value} (F : Fr h₀ L h m) (e : m (Str.ofString "script") = some (.ref sl)) : Fr h₀ L h (fun z => if z = Str.ofString "script" then some (.ref sl) else m z) := by
  have : (fun z => if z = Str.ofString "script" then some (.ref sl) else m z) = m := by
    funext z
    split
    · next hz => rw [hz, e]
    · rfl
  rw [this]; exact F
theorem law_tells {w : World} {p : Program} {loose : List Str} {mean : ExcName → Option Value} {mg mb : Str → Option Value}
    (L : Addr) (sl : Addr) (vs : List Value) (ns : List Int) (oa ob : Obj) (va vb : Option Value) (u : Str → Option Value)
    (fa : Addr) (cd : Value) (base h₀ : Heap) (s : Shared) (Q : Flow → Shared → Prop) (E : Value → Shared → Prop) (da : oa.data = .cell va) (db : ob.data = .cell vb)
    (hl : base.IsList sl vs.toArray) (hi : IntsAre vs ns) (hn : ns.length < 2 ^ 62)
    (B : Below callerA base [] h₀) (F : Fr h₀ L s.heap (fun z => if z = Str.ofString "script" then some (.ref sl) else u z)) (X : (Mine.keepK.heap_208 w.params).In h₀) (N : News h₀ L s.heap [(L + 1 + 1, ob), (L + 1, oa)]) (T : Top p loose mean mg mb h₀)
    (hE : PassesOwn (model Challenge.rw_xm0682_01.row.prog w) (callerA.deeper (envOfC (Str.ofString "law") lawScope L fa cd)) (envOfC (Str.ofString "law") lawScope L fa cd) E)
    (hret : ∀ (u' : Str → Option Value) (news' : List (Addr × Obj)) (h' : Heap) (tk' : Nat), Fr h₀ L h' u' → News h₀ L h' news' → Q (.ret (.bool true)) { s with heap := h', toks := tk' }) :
    wpAny (model Challenge.rw_xm0682_01.row.prog w) (callerA.deeper (envOfC (Str.ofString "law") lawScope L fa cd)) (execs lawBody (envOfC (Str.ofString "law") lawScope L fa cd)) Q E s := by
  revert X
  k_fill
  intro X
  k_with_none
  w_top off
  have m1 : Met 7 (-2) 2 3 := by unfold Met; decide
  have m2 : Met 5 (-2) 8 6 := by unfold Met; decide
  k_with "call ref" => (k_here; first | ((with_reducible show wpAny _ _ (call (Value.ref 103) [Value.ref _]) _ _ _); k_dflt (refine met_line (by k_asm) (by k_asm) (by k_asm) (by k_asm) (by k_asm) (by first | exact rfl | assumption) (by first | ktr_room | exact Nat.le_of_ble_eq_true rfl) (by first | assumption | k_mem) (by assumption) (by decide) (by decide) ?_); intro t9 h9 tk9 F9 N9; (try dsimp only); (try k_fold)) | ((with_reducible show wpAny _ _ (call (Value.ref 180) _) _ _ _); k_dflt (refine refused_tells _ _ _ _ _ _ _ _ _ _ _ _ _ _ _ (by k_asm) (by k_asm) (by k_asm) (by k_asm) (by k_asm) rfl ?_); intro h9 tk9 F9 N9; (try dsimp only); (try k_fold)) | ((with_reducible show wpAny _ _ (call (Value.ref 138) _) _ _ _); k_dflt (refine pool_line (by k_asm) (by k_asm) (by k_asm) (by k_asm) (by k_asm) rfl (by assumption) (by assumption) (by assumption) ?_); intro x9 y9 u9 v9 c9 D9 h9 tk9 a9 b9 d9 l9 F9 N9; (try k_lt l9); (try dsimp only); (try k_fold)))
  conv in lawBody => whnf
  conv in (occs := *) lawScope => all_goals whnf
  repeat' (first | (k_unfold; (try dsimp only)) | ((fail_if_success (with_reducible show wpAny _ _ (execs (Stmt.For _ _ [_, _, _, _, _, _] _ _ :: _) _) _ _ _)); k_end; wrow_close) | ((fail_if_success (with_reducible show wpAny _ _ (execs (Stmt.For _ _ [_, _, _, _, _, _] _ _ :: _) _) _ _ _)); walk1) | ((fail_if_success (with_reducible show wpAny _ _ (execs (Stmt.For _ _ [_, _, _, _, _, _] _ _ :: _) _) _ _ _)); dsimp only; walk1) | ((fail_if_success (with_reducible show wpAny _ _ (execs (Stmt.For _ _ [_, _, _, _, _, _] _ _ :: _) _) _ _ _)); leave1; try dsimp only))
  trace "PREFIX DONE"
  rename Fr _ _ _ _ => F8
  rename News _ _ _ _ => N8
  have F7 := fr_src F8 rfl
  refine' rest _ _ _ _ _ _ _ _ _ _ _ _ _ ?hx ?hy ?hy2 _ _ _ _ _ _ _ ?hL1 ?hL2 ?da ?db ?B F7 ?X N8 ?T ?m1 ?m2 ?m3 ?hE ?hret
  case B => assumption
  case X => assumption
  case T => assumption
  case m1 => k_mem
  case m2 => k_mem
  case m3 => k_mem
  case hx => assumption
  case hy => assumption
  case hy2 => assumption
  case da => assumption
  case db => assumption
  case hL1 => first | assumption | omega
  case hL2 => first | assumption | omega
  case hE => exact hE
  case hret => intro u9 n9 h9 tk9 F9 N9; exact hret _ _ _ _ F9 N9
end
end Mine
open PySem PySem.W PySem.Spec PySem.Calls PyProof.Rows Mine
set_option maxRecDepth 100000 in
set_option maxHeartbeats 0 in
theorem PySem.Challenge.cw_xm0682_01_holds : PySem.Challenge.rw_xm0682_01.Holds := by
  exact Mine.keepK (by
    k_with_none
    w_strict (
      k_fill
      intro w s₀ s₁ mg mb G y fa o pm cd doc dV kV ho hd hcd hD hmg hg args vals as LL hpre hlay hrd hwl hlo
      have KX : (Mine.keepK.heap_208 w.params).In s₁.heap := InK.keeps _ _ _ (PySem.W.X.z_facts (K := Mine.keepK.heap_208) (by intro P; rfl) y).2.1 LL.keeps
      k_behind G ho hd hcd hD hmg hpre hlay hrd hwl hlo cd
      (all_goals try k_fold)
      (repeat' (first | (k_unfold; (try dsimp only))))
      rename Fr _ _ _ _ => F8
      rename News _ _ _ _ => N8
      rename Below _ _ _ _ => B8
      rename Top _ _ _ _ _ _ => T8
      rename Frag.In _ _ => X8
      rename Heap.IsList _ _ _ => L8
      rename IntsAre _ _ => I8
      have F7 := fr_scr F8 (by with_unfolding_all rfl)
      refine' law_tells _ _ _ _ _ _ _ _ _ _ _ _ _ _ _ _ ?da ?db L8 I8 ?hn B8 F7 X8 N8 T8 ?hE ?hret
      (case da => assumption)
      (case db => assumption)
      (case hn => l_fit)
      (case hE => first | passes_own | with_unfolding_all passes_own)
      (case hret => intro u9 n9 h9 tk9 F9 N9; exact law_end (s' := ⟨h9, _, _, _, _⟩) F9 (by assumption) rfl)))
#print axioms PySem.Challenge.cw_xm0682_01_holds
