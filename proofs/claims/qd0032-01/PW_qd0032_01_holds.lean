import PyProof.Rows.All
import Wide.All
import OpenK.AllK
import Wide.FinOn
import PySem.Challenge.RW_qd0032_01
open PySem PySem.W PyProof.Rows
set_option Elab.async false
set_option maxRecDepth 100000
set_option maxHeartbeats 8000000
set_option linter.unusedVariables false
set_option linter.unusedSimpArgs false
namespace Mine
open_top hd for PySem.Challenge.rw_qd0032_01
theorem fillFrag : (hd.heap_39, PySem.Challenge.rw_qd0032_01) = (hd.heap_39, PySem.Challenge.rw_qd0032_01) := by
  w_top off
  k_fill
  rfl
section
abbrev Led := List (Addr × Obj)
abbrev tupO (vs : List Value) : Obj := { cls := .type "tuple", data := .seq vs.toArray }
abbrev Con (w : World) (f : Addr) (lvl : Nat) (vs : List Value) (news : Led) (Ret : (Value → Led → Prop) → Prop) : Prop :=
  ∀ (mean : ExcName → Option Value) (mg mb : PySem.Str → Option Value) (dp un : Nat) (gd : Option (List Code)) (cn : PySem.Str) (cs : Scope) (a : Addr) (ccd : Value) (cl : List (PySem.Str × Addr)) (outer : List Env) (A₀ : Around) (base h₀ : Heap) (L : Addr) (m : PySem.Str → Option Value) (s : Shared) (Q E : Value → Shared → Prop),
    Below A₀ base outer h₀ → Fr h₀ L s.heap m → (hd.heap_39 w.params).In h₀ → News h₀ L s.heap news → Top hd.view_39 (looseW hd.view_39 [Str.ofString "CONV_SHAPE", Str.ofString "CONV_OVF_SHAPE"]) mean mg mb h₀ → cs.kind = .function → dp + lvl < recursionLimit → un + 8 * lvl < cLine →
    Ret (fun r tl => ∀ h' tk', Fr h₀ L h' m → News h₀ L h' (tl ++ news) → (∀ p ∈ tl, ∀ q ∈ news, q.1 < p.1) → Q r { s with heap := h', toks := tk' }) →
    wpAny (model PySem.Challenge.rw_qd0032_01.row.prog w) (ktrTop dp un gd cn cs L a ccd cl outer) (call (.ref f) vs) Q E s
section
variable {w : World} {f : Addr} {lvl : Nat} {vs : List Value} {news : Led} {Ret : (Value → Led → Prop) → Prop} {mean : ExcName → Option Value} {mg mb : PySem.Str → Option Value} {dp un : Nat} {gd : Option (List Code)} {cn : PySem.Str} {cs : Scope} {a : Addr} {ccd : Value} {cl : List (PySem.Str × Addr)} {outer : List Env} {A₀ : Around} {base h₀ : Heap} {L : Addr} {m : PySem.Str → Option Value} {s : Shared} {Q E : Value → Shared → Prop}
theorem con_use (N : News h₀ L s.heap news) (C : Con w f lvl vs news Ret) (B : Below A₀ base outer h₀) (F : Fr h₀ L s.heap m) (X : (hd.heap_39 w.params).In h₀) (T : Top hd.view_39 (looseW hd.view_39 [Str.ofString "CONV_SHAPE", Str.ofString "CONV_OVF_SHAPE"]) mean mg mb h₀) (hk : cs.kind = .function) (hd : dp + lvl < recursionLimit) (hu : un + 8 * lvl < cLine)
    (ret : Ret (fun r tl => ∀ h' tk', Fr h₀ L h' m → News h₀ L h' (tl ++ news) → (∀ p ∈ tl, ∀ q ∈ news, q.1 < p.1) → Q r { s with heap := h', toks := tk' })) :
    wpAny (model PySem.Challenge.rw_qd0032_01.row.prog w) (ktrTop dp un gd cn cs L a ccd cl outer) (call (.ref f) vs) Q E s := C _ _ _ _ _ _ _ _ _ _ _ _ _ _ _ _ _ _ _ _ B F X N T hk hd hu ret
theorem news_dup {h : Heap} {p : Addr × Obj} (N : News h₀ L h news) (hp : p ∈ news) : News h₀ L h (p :: news) := fun q hq => (List.mem_cons.mp hq).elim (fun e => N q (e ▸ hp)) (N q)
theorem q_int {x y : Int} {t : Tok} (e : y = x) (h : Q (.int x t) s) : Q (.int y t) s := e ▸ h
theorem q_cond {P : Prop} {y : Bool} (e : y = true ↔ P) (h1 : P → Q (.bool true) s) (h2 : ¬ P → Q (.bool false) s) : Q (.bool y) s := by
  cases y with
  | true => exact h1 (e.mp rfl)
  | false => exact h2 fun h => nomatch e.mpr h
theorem q_bool {x y : Bool} (e : y = x) (h : Q (.bool x) s) : Q (.bool y) s := e ▸ h
end
theorem ord0 {news : Led} : ∀ p ∈ ([] : Led), ∀ q ∈ news, q.1 < p.1 := fun _ h => nomatch h
theorem ord1 {news : Led} {a : Addr} {o : Obj} (h : ∀ q ∈ news, q.1 < a) : ∀ p ∈ [(a, o)], ∀ q ∈ news, q.1 < p.1 := fun p hp q hq => by
  rw [List.mem_singleton.mp hp]
  exact h q hq
theorem ord2 {news : Led} {a b : Addr} {o u : Obj} (h : ∀ q ∈ (b, u) :: news, q.1 < a) (k : ∀ q ∈ news, q.1 < b) : ∀ p ∈ [(a, o), (b, u)], ∀ q ∈ news, q.1 < p.1 := fun p hp q hq => by
  rcases List.mem_cons.mp hp with rfl | hp
  · exact h q (.tail _ hq)
  · rw [List.mem_singleton.mp hp]
    exact k q hq
section
variable {h₀ h : Heap} {L a b : Addr} {news : Led} {x y : Int} {t : Tok} {r : List Value} {o : Obj}
theorem news_int (N : News h₀ L h ((a, tupO (.int x t :: r)) :: news)) (e : x = y) : News h₀ L h ([(a, tupO (.int y t :: r))] ++ news) := e ▸ N
end
theorem ord_cons {news tl : Led} {a : Addr} {o : Obj} (h : ∀ q ∈ news, q.1 < a) (k : ∀ p ∈ tl, ∀ q ∈ news, q.1 < p.1) : ∀ p ∈ (a, o) :: tl, ∀ q ∈ news, q.1 < p.1 := fun p hp q hq => by
  rcases List.mem_cons.mp hp with rfl | hp
  · exact h q hq
  · exact k p hp q hq
theorem news_d1 {h₀ h : Heap} {L : Addr} {news : Led} {p r : Addr × Obj} (N : News h₀ L h (p :: r :: news)) : News h₀ L h ([p] ++ news) := fun x hx => N x (by
  rcases List.mem_cons.mp hx with rfl | hx
  · exact .head _
  · exact .tail _ (.tail _ hx))
theorem news_d2 {h₀ h : Heap} {L : Addr} {news : Led} {p q r : Addr × Obj} (N : News h₀ L h (p :: q :: r :: news)) : News h₀ L h ([p, q] ++ news) := fun x hx => N x (by
  rcases List.mem_cons.mp hx with rfl | hx
  · exact .head _
  · rcases List.mem_cons.mp hx with rfl | hx
    · exact .tail _ (.head _)
    · exact .tail _ (.tail _ (.tail _ hx)))
theorem unrEndC {h₀ : Heap} {L I : Addr} {it : Obj} {rest : (PySem.Str → Option Value) → List (Addr × Obj) → Prop} {s₁ : Shared} {h' : Heap} {tk : Nat} {m' : PySem.Str → Option Value} {news' : Led} (F : Fr h₀ L h' m') (N : News h₀ L h' ((I, it) :: news'))
    (off : AllLt I news') (r : rest m' news') : UnrEnd h₀ L s₁ I it rest { s₁ with heap := h', toks := tk } :=
  UnrEnd.intro F N news' (fun _ hp => hp) (fun p hp => Nat.ne_of_lt (ktn_ltOf off p hp)) r
def wrapB (n : Int) (b : Nat) : Int := if n % 2 ^ b ≥ 2 ^ (b - 1) then n % 2 ^ b - 2 ^ b else n % 2 ^ b
theorem two_one (n : Int) (b : Nat) : Builtin.bitAnd n (1 * 2 ^ b - 1) = n % 2 ^ b := by rw [Int.one_mul]; exact kbt_mask n b
theorem wrap_hi (n : Int) (b : Nat) (k : Nat) (hk : b = k + 1) (h : (Builtin.bitAnd n (1 * 2 ^ b - 1)).fdiv (2 ^ k) ≠ 0) : Builtin.bitAnd n (1 * 2 ^ b - 1) - 1 * 2 ^ b = wrapB n b := by
  rw [two_one] at h ⊢
  have h2 : (0 : Int) < 2 ^ k := kbt_pos k
  have h3 : (0 : Int) < 2 ^ b := kbt_pos b
  have h0 : 0 ≤ n % 2 ^ b := Int.emod_nonneg _ (by omega)
  have e : b - 1 = k := by omega
  unfold wrapB
  rw [e, if_pos, Int.one_mul]
  refine Int.not_lt.mp fun hl => h ?_
  rw [Int.fdiv_eq_ediv_of_nonneg _ (by omega)]
  exact Int.ediv_eq_zero_of_lt h0 hl
theorem wrap_lo (n : Int) (b : Nat) (k : Nat) (hk : b = k + 1) (h : (Builtin.bitAnd n (1 * 2 ^ b - 1)).fdiv (2 ^ k) = 0) : Builtin.bitAnd n (1 * 2 ^ b - 1) = wrapB n b := by
  rw [two_one] at h ⊢
  have h2 : (0 : Int) < 2 ^ k := kbt_pos k
  have h3 : (0 : Int) < 2 ^ b := kbt_pos b
  have h0 : 0 ≤ n % 2 ^ b := Int.emod_nonneg _ (by omega)
  have e : b - 1 = k := by omega
  unfold wrapB
  rw [e, if_neg]
  intro hl
  rw [Int.fdiv_eq_ediv_of_nonneg _ (by omega)] at h
  have := (Int.le_ediv_iff_mul_le h2).mpr (by rw [Int.one_mul]; exact hl : 1 * 2 ^ k ≤ n % 2 ^ b)
  omega
theorem room_0 {dp l : Nat} (h : dp + l < recursionLimit) : dp < recursionLimit := Nat.lt_of_le_of_lt (Nat.le_add_right _ _) h
theorem room_1 {dp l k : Nat} (h : dp + l < recursionLimit) (e : 1 + k ≤ l) : dp + 1 + k < recursionLimit := Nat.lt_of_le_of_lt (by rw [Nat.add_assoc]; exact Nat.add_le_add_left e dp) h
theorem units_8 {un c l k : Nat} (h : un + 8 * l < cLine) (e : c + 8 * k ≤ 8 * l) : un + c + 8 * k < cLine := Nat.lt_of_le_of_lt (by rw [Nat.add_assoc]; exact Nat.add_le_add_left e un) h
theorem units_k {un c l k : Nat} (h : un + 8 * l < cLine) (e : c + k ≤ 8 * l) : un + c + k < cLine := Nat.lt_of_le_of_lt (by rw [Nat.add_assoc]; exact Nat.add_le_add_left e un) h
theorem units_1 {un l k : Nat} (h : un + 8 * l < cLine) (e : k ≤ 8 * l) : un + k < cLine := Nat.lt_of_le_of_lt (Nat.add_le_add_left e un) h
end
local macro_rules | `(tactic| walk_at $s:str) => `(tactic| k_extra $s)
local macro_rules | `(tactic| ktn_step) => `(tactic| (refine wpAny_call ?_; (first | k_dflt cell_enter | ktn_no "not entered"); k_steps))
local macro_rules | `(tactic| ktn_lt) => `(tactic| first | assumption | exact ktn_ltOf (by assumption) | exact ktn_ltOf (And.right (by assumption)) | exact ktn_ltOf (And.right (And.right (by assumption))) | exact ktn_ltOf (And.right (And.right (And.right (by assumption)))) | exact ktn_ltOf (And.right (And.right (And.right (And.right (by assumption))))))
local macro_rules | `(tactic| ktn_ord) => `(tactic| first | exact ord0 | assumption | (refine ord_cons ?_ ?_; (focus ktn_lt); ktn_ord))
local macro_rules | `(tactic| ktr_room) => `(tactic| k_dflt (first | exact room_0 (by assumption) | exact room_1 (by assumption) (by decide)))
local macro_rules | `(tactic| ktr_units) => `(tactic| k_dflt (exact units_8 (by assumption) (by decide)))
local macro_rules | `(tactic| units_room) => `(tactic| k_dflt (first | exact units_k (by assumption) (by decide) | exact units_1 (by assumption) (by decide)))
local macro_rules | `(tactic| cell_ask $C:term) => `(tactic| (refine' con_use (by k_asm) $C ?k1 ?k2 ?k3 ?k5 ?kK ?kd ?ku ?_; (case k1 => k_asm); (case k2 => k_asm); (case k3 => k_asm); (case k5 => k_asm); (case kK => first | exact rfl | assumption); (case kd => ktr_room); (case ku => ktr_units)))
local macro_rules | `(tactic| k_mem) => `(tactic| assumption)
local macro_rules | `(tactic| k_mem) => `(tactic| (refine List.Mem.tail _ ?_; k_mem))
local macro_rules | `(tactic| k_mem) => `(tactic| exact List.Mem.head _)
local macro_rules | `(tactic| k_is) => `(tactic| assumption)
section
theorem words1 : True := by
  k_with_none
  (k_with "eval Call" => k_dflt (refine Call_ ?_))
  trivial
theorem bits_bd {bits : Int} (hb : bits = 8 ∨ bits = 16 ∨ bits = 32 ∨ bits = 64) : 0 ≤ bits ∧ bits ≤ 1000000 ∧ 0 ≤ bits - 1 ∧ bits - 1 ≤ 1000000 ∧ bits.toNat = (bits - 1).toNat + 1 := by
  rcases hb with rfl | rfl | rfl | rfl <;> decide
theorem words2 : True := by
  (k_with "binaryOp LShift int int" => k_dflt (refine' lshift_int_small ?a ?b (by decide) ?_; (case a => assumption); (case b => assumption)))
  (k_with "binaryOp RShift int int" => k_dflt (refine' rshift_int ?a ?_; (case a => assumption)))
  trivial
theorem c_wrapG (w : World) (n bits : Int) (t tb : Tok) (news : Led) (hb : bits = 8 ∨ bits = 16 ∨ bits = 32 ∨ bits = 64) : Con w 21 1 [.int n t, .int bits tb] news (fun P => ∀ t', P (.int (wrapB n bits.toNat) t') []) := by
  obtain ⟨b1, b2, b3, b4, b5⟩ := bits_bd hb
  clear hb
  intro mean mg mb dp un gd cn cs a ccd cl outer A₀ base h₀ L m s Q E B F X N T hk hd hu hret
  ktn_step
  · exact q_int (wrap_hi n _ _ b5 (by assumption)) (hret _ _ _ (by k_asm) (by assumption) ord0)
  · exact q_int (wrap_lo n _ _ b5 (by assumption)) (hret _ _ _ (by k_asm) (by assumption) ord0)
theorem c_unsG (w : World) (n bits : Int) (t tb : Tok) (news : Led) (hb : bits = 8 ∨ bits = 16 ∨ bits = 32 ∨ bits = 64) : Con w 76 1 [.int n t, .int bits tb] news (fun P => ∀ t', P (.int (n % 2 ^ bits.toNat) t') []) := by
  obtain ⟨b1, b2, b3, b4, b5⟩ := bits_bd hb
  clear hb b5
  intro mean mg mb dp un gd cn cs a ccd cl outer A₀ base h₀ L m s Q E B F X N T hk hd hu hret
  ktn_step
  · exact q_int (two_one n _) (hret _ _ _ (by k_asm) (by assumption) ord0)
end
section
theorem words3 : True := by
  k_with_none
  (k_with "eval Call" => k_dflt (refine Call_ ?_))
  trivial
def srcOf (T : Int) : Int := if T = 2 then 64 else 32
def uns (n T : Int) : Int := if T = 2 then n % 2 ^ 64 else n % 2 ^ 32
def inR (n : Int) (b : Nat) (sg : Bool) : Prop := if sg then -(2 ^ (b - 1)) ≤ n ∧ n < 2 ^ (b - 1) else 0 ≤ n ∧ n < 2 ^ b
section
variable {prog : Program} {w : World} {A : Around} {E : Value → Shared → Prop} {s : Shared} {h₀ : Heap} {L a : Addr} {news : Led}
theorem item_t0 {value slice : Expr} {rest : List Value} {u : Tok} {v : Value} {Q : Value → Shared → Prop} (N : News h₀ L s.heap news) (hv : (a, tupO (v :: rest)) ∈ news) (h : Q v s)
    (hs : subscripted slice false (.ref a) (.int 0 u) = operate [.ref a, .int 0 u] (getItem (.ref a) (.int 0 u)) := by with_unfolding_all rfl) :
    wpAny (model prog w) A (subscriptTail value slice (.ref a) (.int 0 u)) Q E s :=
  have ht := News.isTup N hv
  tail_any ht.typeIs slot_tuple_getitem.lookup (getItem_tuple ht (by decide) (by decide) (seqIndex_of (by decide) (Int.natCast_pos.mpr (Nat.succ_pos _))) (x := v) rfl h) hs
end
theorem con_mono {w : World} {f : Addr} {lvl : Nat} {vs : List Value} {news : Led} {R R' : (Value → Led → Prop) → Prop} (C : Con w f lvl vs news R) (h : ∀ P, R' P → R P) : Con w f lvl vs news R' :=
  fun _ _ _ _ _ _ _ _ _ _ _ _ _ _ _ _ _ _ _ _ B F X N T hk hd hu ret => C _ _ _ _ _ _ _ _ _ _ _ _ _ _ _ _ _ _ _ _ B F X N T hk hd hu (h _ ret)
theorem isn_1 {T : Int} (h : T = 1) : (T == 1) = true ↔ T = 1 ∨ T = 2 ∨ T = 3 := by simp [h]
theorem isn_2 {T : Int} (h : T = 2) : (T == 2) = true ↔ T = 1 ∨ T = 2 ∨ T = 3 := by simp [h]
theorem isn_3 {T : Int} (h1 : T ≠ 1) (h2 : T ≠ 2) : (T == 3) = true ↔ T = 1 ∨ T = 2 ∨ T = 3 := by simp [h1, h2]
theorem con_yes {w : World} {f : Addr} {lvl : Nat} {vs : List Value} {news : Led} {C : Prop} (K : Con w f lvl vs news (fun P => ∀ b, (b = true ↔ C) → P (.bool b) [])) (h : C) : Con w f lvl vs news (fun P => P (.bool true) []) :=
  con_mono K fun _ p b hb => (hb.mpr h) ▸ p
theorem con_no {w : World} {f : Addr} {lvl : Nat} {vs : List Value} {news : Led} {C : Prop} (K : Con w f lvl vs news (fun P => ∀ b, (b = true ↔ C) → P (.bool b) [])) (h : ¬ C) : Con w f lvl vs news (fun P => P (.bool false) []) :=
  con_mono K fun _ p b hb => (Bool.eq_false_iff.mpr fun e => h (hb.mp e)) ▸ p
theorem num_no {T : Int} (h : 4 ≤ T) : ¬ (T = 1 ∨ T = 2 ∨ T = 3) := by omega
theorem wi_u1 {n : Int} {b : Nat} {sg : Bool} (hs : sg = false) (h : 0 ≤ n) : decide (n < 1 * 2 ^ b) = true ↔ inR n b sg := by simp [inR, h, hs]
theorem wi_u0 {n : Int} {b : Nat} {sg : Bool} (hs : sg = false) (h : ¬ 0 ≤ n) : decide (0 ≤ n) = true ↔ inR n b sg := by simp [inR, h, hs]
theorem wi_s1 {n : Int} {b k : Nat} {sg : Bool} (hs : sg = true) (hb : b = k + 1) (h : -(1 * 2 ^ k) ≤ n) : decide (n < 1 * 2 ^ k) = true ↔ inR n b sg := by
  subst hb
  rw [Int.one_mul] at h
  simp [inR, h, hs]
theorem wi_s0 {n : Int} {b k : Nat} {sg : Bool} (hs : sg = true) (hb : b = k + 1) (h : ¬ -(1 * 2 ^ k) ≤ n) : decide (-(1 * 2 ^ k) ≤ n) = true ↔ inR n b sg := by
  subst hb
  rw [Int.one_mul] at h
  simp [inR, h, hs]
theorem words4 : True := by
  (k_with "subscriptTail" => ((with_reducible show wpAny _ _ (subscriptTail _ _ (Value.ref _) (Value.int 0 _)) _ _ _); k_dflt (refine' item_t0 ?N ?m ?_; (case N => k_asm); (case m => k_mem))))
  trivial
theorem c_isnum (w : World) (va : Addr) (T : Int) (tT : Tok) (rest : List Value) (news : Led) (hv : (va, tupO (.int T tT :: rest)) ∈ news) : Con w 118 1 [.ref va] news (fun P => ∀ b, (b = true ↔ T = 1 ∨ T = 2 ∨ T = 3) → P (.bool b) []) := by
  intro mean mg mb dp un gd cn cs a ccd cl outer A₀ base h₀ L m s Q E B F X N T hk hd hu hret
  ktn_step
  · exact hret _ (isn_1 (by assumption)) _ _ (by k_asm) (by assumption) ord0
  · exact hret _ (isn_2 (by assumption)) _ _ (by k_asm) (by assumption) ord0
  · exact hret _ (isn_3 (by assumption) (by assumption)) _ _ (by k_asm) (by assumption) ord0
theorem c_bits (w : World) (va : Addr) (T : Int) (tT : Tok) (rest : List Value) (news : Led) (hv : (va, tupO (.int T tT :: rest)) ∈ news) : Con w 125 1 [.ref va] news (fun P => ∀ t, P (.int (srcOf T) t) []) := by
  intro mean mg mb dp un gd cn cs a ccd cl outer A₀ base h₀ L m s Q E B F X N T hk hd hu hret
  ktn_step
  · exact q_int (if_pos (by assumption)).symm (hret _ _ _ (by k_asm) (by assumption) ord0)
  · exact q_int (if_neg (by assumption)).symm (hret _ _ _ (by k_asm) (by assumption) ord0)
theorem c_unsS (w : World) (n T : Int) (t tb : Tok) (news : Led) : Con w 76 1 [.int n t, .int (srcOf T) tb] news (fun P => ∀ t', P (.int (uns n T) t') []) := by
  unfold srcOf uns
  split
  · exact c_unsG w n 64 t tb news (Or.inr (Or.inr (Or.inr rfl)))
  · exact c_unsG w n 32 t tb news (Or.inr (Or.inr (Or.inl rfl)))
theorem words5 : True := by
  (k_with "binaryOp LShift int int" => k_dflt (refine' lshift_int_small ?a ?b (by decide) ?_; (case a => assumption); (case b => assumption)))
  (k_with "binaryOp RShift int int" => k_dflt (refine' rshift_int ?a ?_; (case a => assumption)))
  trivial
theorem c_withinG (w : World) (n bits : Int) (sg : Bool) (t tb : Tok) (news : Led) (hb : bits = 8 ∨ bits = 16 ∨ bits = 32 ∨ bits = 64) : Con w 83 1 [.int n t, .int bits tb, .bool (!sg)] news (fun P => ∀ b, (b = true ↔ inR n bits.toNat sg) → P (.bool b) []) := by
  obtain ⟨b1, b2, b3, b4, b5⟩ := bits_bd hb
  clear hb
  intro mean mg mb dp un gd cn cs a ccd cl outer A₀ base h₀ L m s Q E B F X N T hk hd hu hret
  ktn_step
  · exact hret _ (wi_s1 (by assumption) b5 (by assumption)) _ _ (by k_asm) (by assumption) ord0
  · exact hret _ (wi_s0 (by assumption) b5 (by assumption)) _ _ (by k_asm) (by assumption) ord0
  · exact hret _ (wi_u1 (by assumption) (by assumption)) _ _ (by k_asm) (by assumption) ord0
  · exact hret _ (wi_u0 (by assumption) (by assumption)) _ _ (by k_asm) (by assumption) ord0
end
section
theorem words6 : True := by
  k_with_none
  (k_with "eval Call" => k_dflt (refine Call_ ?_))
  trivial
def KeysLitI : List DictEntry → Prop
  | [] => True
  | e :: r => (∃ x t, e.key = .int x t ∧ e.hash = hashInt x) ∧ KeysLitI r
theorem KeysLitI.all {l : List DictEntry} (h : KeysLitI l) : ∀ e ∈ l, ∃ x t, e.key = .int x t ∧ e.hash = hashInt x := by
  induction l with
  | nil => exact fun _ he => absurd he List.not_mem_nil
  | cons a r ih =>
    intro e he
    rcases List.mem_cons.mp he with rfl | he
    · exact h.1
    · exact ih h.2 e he
section
variable {prog : Program} {w : World} {A : Around} {E : Value → Shared → Prop} {s : Shared} {h₀ h : Heap} {L a : Addr} {m : PySem.Str → Option Value} {K : Frag} {es : Array DictEntry} {n : Nat} {x : Int} {t : Tok} {v : Value}
theorem mapI (X : K.In h) (hl : K.lookup a = some ⟨.type "dict", none, .dict es n, #[]⟩) (hk : KeysLitI es.toList) : h.MapOf (intKind prog w) a (fun k => findBy Value.isInt es k) :=
  ⟨_, es, n, X _ _ hl, ⟨rfl, rfl, rfl⟩, rfl, fun e he => by
    obtain ⟨x, t, e1, e2⟩ := hk.all e (Array.mem_toList_iff.mpr he)
    exact ⟨x, by rw [e1]; exact intKind_is prog w x t, e2⟩, fun _ => rfl⟩
theorem itemI {value slice : Expr} {Q : Value → Shared → Prop} (F : Fr h₀ L s.heap m) (X₀ : K.In h₀) (hl : K.lookup a = some ⟨.type "dict", none, .dict es n, #[]⟩) (hk : KeysLitI es.toList) (e : findBy Value.isInt es x = some v)
    (h : Q v { s with toks := s.toks + 1 })
    (hs : subscripted slice false (.ref a) (.int x t) = operate [.ref a, .int x t] (getItem (.ref a) (.int x t)) := by with_unfolding_all rfl) :
    wpAny (model prog w) A (subscriptTail value slice (.ref a) (.int x t)) Q E s :=
  have hm := mapI (prog := prog) (w := w) (X₀.keeps F.keep) hl hk
  tail_any hm.typeIs slot_dict_getitem.lookup (wpAny_getItem_of (intKind_is prog w x t) hm e h) hs
theorem inI {r : Option Value} {Q : Value → Shared → Prop} (F : Fr h₀ L s.heap m) (X₀ : K.In h₀) (hl : K.lookup a = some ⟨.type "dict", none, .dict es n, #[]⟩) (hk : KeysLitI es.toList) (e : findBy Value.isInt es x = r) (lo : (a == sysModules) = false)
    (h : Q (.bool r.isSome) { s with toks := s.toks + 1 }) : wpAny (model prog w) A (compareOp .In (.int x t) (.ref a)) Q E s :=
  wpAny_in_of (intKind_is prog w x t) lo (mapI (prog := prog) (X₀.keeps F.keep) hl hk) (by rw [e]; exact h)
theorem notinI {r : Option Value} {Q : Value → Shared → Prop} (F : Fr h₀ L s.heap m) (X₀ : K.In h₀) (hl : K.lookup a = some ⟨.type "dict", none, .dict es n, #[]⟩) (hk : KeysLitI es.toList) (e : findBy Value.isInt es x = r) (lo : (a == sysModules) = false)
    (h : Q (.bool (!r.isSome)) { s with toks := s.toks + 1 }) : wpAny (model prog w) A (compareOp .NotIn (.int x t) (.ref a)) Q E s :=
  wpAny_notIn_of (intKind_is prog w x t) lo (mapI (prog := prog) (X₀.keeps F.keep) hl hk) (by rw [e]; exact h)
end
def es43 : Array DictEntry := #[⟨103, .int 103 187, .ref 44⟩, ⟨210, .int 210 233, .ref 45⟩, ⟨104, .int 104 189, .ref 46⟩, ⟨209, .int 209 231, .ref 47⟩, ⟨105, .int 105 191, .ref 48⟩, ⟨109, .int 109 195, .ref 49⟩, ⟨106, .int 106 193, .ref 50⟩, ⟨110, .int 110 197, .ref 51⟩, ⟨211, .int 211 235, .ref 52⟩]
def es53 : Array DictEntry := #[⟨179, .int 179 215, .ref 54⟩, ⟨180, .int 180 217, .ref 55⟩, ⟨181, .int 181 219, .ref 56⟩, ⟨182, .int 182 221, .ref 57⟩, ⟨183, .int 183 223, .ref 58⟩, ⟨184, .int 184 225, .ref 59⟩, ⟨185, .int 185 227, .ref 60⟩, ⟨186, .int 186 229, .ref 61⟩, ⟨130, .int 130 199, .ref 62⟩, ⟨134, .int 134 207, .ref 63⟩, ⟨131, .int 131 201, .ref 64⟩, ⟨135, .int 135 209, .ref 65⟩, ⟨132, .int 132 203, .ref 66⟩, ⟨136, .int 136 211, .ref 67⟩, ⟨133, .int 133 205, .ref 68⟩, ⟨137, .int 137 213, .ref 69⟩]
theorem look43 (P : Params) : (hd.heap_39 P).lookup 43 = some ⟨.type "dict", none, .dict es43 9, #[]⟩ := by k_is
theorem keys43 : KeysLitI es43.toList := by
  unfold es43
  repeat' (first | exact trivial | refine And.intro ⟨_, _, rfl, by decide⟩ ?_)
theorem look53 (P : Params) : (hd.heap_39 P).lookup 53 = some ⟨.type "dict", none, .dict es53 16, #[]⟩ := by k_is
theorem keys53 : KeysLitI es53.toList := by
  unfold es53
  repeat' (first | exact trivial | refine And.intro ⟨_, _, rfl, by decide⟩ ?_)
def tagOf (op bits : Int) : Int := if op = 211 then 3 else if bits = 64 then 2 else 1
def convV (n T bits : Int) (sg : Bool) : Int := if sg then wrapB n bits.toNat else if bits = 64 then wrapB (uns n T) 64 else if bits = 32 then wrapB n 32 else n % 2 ^ bits.toNat
def exactV (n T : Int) (un : Bool) : Int := if un then uns n T else n
def ovV (x bits : Int) (sg : Bool) : Int := if sg = true ∨ bits ≥ 32 then wrapB x bits.toNat else x % 2 ^ bits.toNat
theorem words7 : True := by
  (k_with "compareOp In int ref" => (k_dflt (first | (refine' inI ?F ?X (look43 _) keys43 ?e rfl ?_; (case F => k_asm); (case X => k_asm); (case e => assumption)) | (refine' inI ?F ?X (look53 _) keys53 ?e rfl ?_; (case F => k_asm); (case X => k_asm); (case e => assumption))); (try dsimp only [Option.isSome])))
  (k_with "compareOp NotIn int ref" => (k_dflt (first | (refine' notinI ?F ?X (look53 _) keys53 ?e rfl ?_; (case F => k_asm); (case X => k_asm); (case e => assumption))); (try dsimp only [Option.isSome, Bool.not_true, Bool.not_false])))
  (k_with "subscriptTail" => ((with_reducible show wpAny _ _ (subscriptTail _ _ (Value.ref _) (Value.int _ _)) _ _ _); k_dflt (first | (refine' itemI ?F ?X (look43 _) keys43 ?e ?_; (case F => k_asm); (case X => k_asm); (case e => assumption)) | (refine' itemI ?F ?X (look53 _) keys53 ?e ?_; (case F => k_asm); (case X => k_asm); (case e => assumption)))))
  trivial
theorem c_tagP (w : World) (op bits : Int) (to tb : Tok) (sg : Bool) (ra : Addr) (h43 : findBy Value.isInt es43 op = some (.ref ra)) (hra : (hd.heap_39 w.params).lookup ra = some ⟨.type "tuple", none, .seq [.int bits tb, .bool sg].toArray 0, #[]⟩) (news : Led) : Con w 111 1 [.int op to] news (fun P => ∀ t, P (.int (tagOf op bits) t) []) := by
  intro mean mg mb dp un gd cn cs a ccd cl outer A₀ base h₀ L m s Q E B F X N T hk hd hu hret
  ktn_step
  all_goals exact q_int (by simp [tagOf, *]) (hret _ _ _ (by k_asm) (by assumption) ord0)
theorem c_tagC (w : World) (op bits : Int) (to tb : Tok) (sg un : Bool) (ra : Addr) (h43 : findBy Value.isInt es43 op = none) (h53 : findBy Value.isInt es53 op = some (.ref ra)) (hop : op ≠ 211) (hra : (hd.heap_39 w.params).lookup ra = some ⟨.type "tuple", none, .seq [.int bits tb, .bool sg, .bool un].toArray 0, #[]⟩) (news : Led) : Con w 111 1 [.int op to] news (fun P => ∀ t, P (.int (tagOf op bits) t) []) := by
  intro mean mg mb dp un gd cn cs a ccd cl outer A₀ base h₀ L m s Q E B F X N T hk hd hu hret
  ktn_step
  all_goals exact q_int (by simp [tagOf, *]) (hret _ _ _ (by k_asm) (by assumption) ord0)
end
section
theorem words8 : True := by
  k_with_none
  (k_with "eval Call" => k_dflt (refine Call_ ?_))
  (k_with "compareOp In int ref" => (k_dflt (first | (refine' inI ?F ?X (look43 _) keys43 ?e rfl ?_; (case F => k_asm); (case X => k_asm); (case e => assumption)) | (refine' inI ?F ?X (look53 _) keys53 ?e rfl ?_; (case F => k_asm); (case X => k_asm); (case e => assumption))); (try dsimp only [Option.isSome])))
  (k_with "compareOp NotIn int ref" => (k_dflt (first | (refine' notinI ?F ?X (look53 _) keys53 ?e rfl ?_; (case F => k_asm); (case X => k_asm); (case e => assumption))); (try dsimp only [Option.isSome, Bool.not_true, Bool.not_false])))
  (k_with "subscriptTail" => ((with_reducible show wpAny _ _ (subscriptTail _ _ (Value.ref _) (Value.int _ _)) _ _ _); k_dflt (first | (refine' itemI ?F ?X (look43 _) keys43 ?e ?_; (case F => k_asm); (case X => k_asm); (case e => assumption)) | (refine' itemI ?F ?X (look53 _) keys53 ?e ?_; (case F => k_asm); (case X => k_asm); (case e => assumption)))))
  (k_with "call ref" => (k_dflt (cell_ask (c_wrapG _ _ _ _ _ _ (by first | assumption | decide))); (try dsimp only [List.nil_append, List.cons_append]); intros; (try k_fold)))
  (k_with "call ref" => (k_dflt (cell_ask (c_unsG _ _ _ _ _ _ (by assumption))); (try dsimp only [List.nil_append, List.cons_append]); intros; (try k_fold)))
  (k_with "call ref" => (k_dflt (cell_ask (c_unsS _ _ _ _ _ _)); (try dsimp only [List.nil_append, List.cons_append]); intros; (try k_fold)))
  (k_with "call ref" => (k_dflt (cell_ask (c_withinG _ _ _ _ _ _ _ (by assumption))); (try dsimp only [List.nil_append, List.cons_append]); intros; (try k_fold)))
  trivial
theorem c_reading (w : World) (n T : Int) (tn ts : Tok) (un : Bool) (news : Led) : Con w 90 2 [.int n tn, .int (srcOf T) ts, .bool un] news (fun P => ∀ t, P (.int (exactV n T un) t) []) := by
  intro mean mg mb dp un gd cn cs a ccd cl outer A₀ base h₀ L m s Q E B F X N T hk hd hu hret
  ktn_step
  all_goals exact q_int (by simp [exactV, *]) (hret _ _ _ (by k_asm) (by assumption) ord0)
theorem c_convP (w : World) (n T : Int) (tn ts : Tok) (op bits : Int) (to tb : Tok) (sg : Bool) (ra : Addr) (h43 : findBy Value.isInt es43 op = some (.ref ra)) (hra : (hd.heap_39 w.params).lookup ra = some ⟨.type "tuple", none, .seq [.int bits tb, .bool sg].toArray 0, #[]⟩) (hb : bits = 8 ∨ bits = 16 ∨ bits = 32 ∨ bits = 64) (news : Led) : Con w 97 2 [.int n tn, .int (srcOf T) ts, .int op to] news (fun P => ∀ t, P (.int (convV n T bits sg) t) []) := by
  intro mean mg mb dp un gd cn cs a ccd cl outer A₀ base h₀ L m s Q E B F X N T hk hd hu hret
  ktn_step
  all_goals exact q_int (by simp [convV, *]) (hret _ _ _ (by k_asm) (by assumption) ord0)
theorem words9 : True := by
  (k_with "call ref" => (k_dflt (cell_ask (c_reading _ _ _ _ _ _ _)); (try dsimp only [List.nil_append, List.cons_append]); intros; (try k_fold)))
  trivial
theorem c_ovf (w : World) (n T : Int) (tn ts : Tok) (op bits : Int) (to tb : Tok) (sg un : Bool) (ra : Addr) (h43 : findBy Value.isInt es43 op = none) (h53 : findBy Value.isInt es53 op = some (.ref ra)) (hop : op ≠ 211) (hra : (hd.heap_39 w.params).lookup ra = some ⟨.type "tuple", none, .seq [.int bits tb, .bool sg, .bool un].toArray 0, #[]⟩) (hb : bits = 8 ∨ bits = 16 ∨ bits = 32 ∨ bits = 64) (news : Led) : Con w 104 3 [.int n tn, .int (srcOf T) ts, .int op to] news (fun P => ∀ b, (b = true ↔ inR (exactV n T un) bits.toNat sg) → ∀ a t, P (.ref a) [(a, tupO [.int (ovV (exactV n T un) bits sg) t, .bool b])]) := by
  intro mean mg mb dp un gd cn cs a ccd cl outer A₀ base h₀ L m s Q E B F X N T hk hd hu hret
  ktn_step
  all_goals exact hret _ (by assumption) _ _ _ _ (by k_asm) (news_int (by assumption) (by simp only [ovV, ge_iff_le]; simp [*])) (ord1 (by assumption))
end
section
theorem words10 : True := by
  k_with_none
  (k_with "eval Call" => k_dflt (refine Call_ ?_))
  (k_with "compareOp In int ref" => (k_dflt (first | (refine' inI ?F ?X (look43 _) keys43 ?e rfl ?_; (case F => k_asm); (case X => k_asm); (case e => assumption)) | (refine' inI ?F ?X (look53 _) keys53 ?e rfl ?_; (case F => k_asm); (case X => k_asm); (case e => assumption))); (try dsimp only [Option.isSome])))
  (k_with "compareOp NotIn int ref" => (k_dflt (first | (refine' notinI ?F ?X (look53 _) keys53 ?e rfl ?_; (case F => k_asm); (case X => k_asm); (case e => assumption))); (try dsimp only [Option.isSome, Bool.not_true, Bool.not_false])))
  (k_with "subscriptTail" => ((with_reducible show wpAny _ _ (subscriptTail _ _ (Value.ref _) (Value.int _ _)) _ _ _); k_dflt (first | (refine' itemI ?F ?X (look43 _) keys43 ?e ?_; (case F => k_asm); (case X => k_asm); (case e => assumption)) | (refine' itemI ?F ?X (look53 _) keys53 ?e ?_; (case F => k_asm); (case X => k_asm); (case e => assumption)))))
  (k_with "subscriptTail" => ((with_reducible show wpAny _ _ (subscriptTail _ _ (Value.ref _) (Value.int 0 _)) _ _ _); k_dflt (refine' item_t0 ?N ?m ?_; (case N => k_asm); (case m => k_mem))))
  (k_with "call ref" => (k_dflt (cell_ask (con_no (c_isnum _ _ _ _ _ _ (by k_mem)) (num_no (by assumption)))); (try dsimp only [List.nil_append, List.cons_append]); intros; (try k_fold)))
  (k_with "call ref" => (k_dflt (cell_ask (con_yes (c_isnum _ _ _ _ _ _ (by k_mem)) (by assumption))); (try dsimp only [List.nil_append, List.cons_append]); intros; (try k_fold)))
  (k_with "call ref" => (k_dflt (cell_ask (c_bits _ _ _ _ _ _ (by k_mem))); (try dsimp only [List.nil_append, List.cons_append]); intros; (try k_fold)))
  (k_with "call ref" => (k_dflt (cell_ask (c_tagP _ _ _ _ _ _ _ (by assumption) (by assumption) _)); (try dsimp only [List.nil_append, List.cons_append]); intros; (try k_fold)))
  (k_with "call ref" => (k_dflt (cell_ask (c_tagC _ _ _ _ _ _ _ _ (by assumption) (by assumption) (by assumption) (by assumption) _)); (try dsimp only [List.nil_append, List.cons_append]); intros; (try k_fold)))
  (k_with "call ref" => (k_dflt (cell_ask (c_convP _ _ _ _ _ _ _ _ _ _ _ (by assumption) (by assumption) (by assumption) _)); (try dsimp only [List.nil_append, List.cons_append]); intros; (try k_fold)))
  (k_with "call ref" => (k_dflt (cell_ask (c_ovf _ _ _ _ _ _ _ _ _ _ _ _ (by assumption) (by assumption) (by assumption) (by assumption) (by assumption) _)); (try dsimp only [List.nil_append, List.cons_append]); intros; (try k_fold)))
  trivial
theorem c_runP (w : World) (op bits : Int) (to tb : Tok) (sg : Bool) (ra : Addr) (h43 : findBy Value.isInt es43 op = some (.ref ra)) (hra : (hd.heap_39 w.params).lookup ra = some ⟨.type "tuple", none, .seq [.int bits tb, .bool sg].toArray 0, #[]⟩) (hb : bits = 8 ∨ bits = 16 ∨ bits = 32 ∨ bits = 64) (va : Addr) (T n : Int) (tT tn : Tok) (news : Led) (hv : (va, tupO [.int T tT, .int n tn]) ∈ news) (hT : T = 1 ∨ T = 2 ∨ T = 3) : Con w 132 5 [.int op to, .ref va] news (fun P => ∀ a b t0 t1 t2, P (.ref a) [(a, tupO [.ref b, .int 0 t0]), (b, tupO [.int (tagOf op bits) t1, .int (convV n T bits sg) t2])]) := by
  intro mean mg mb dp un gd cn cs a ccd cl outer A₀ base h₀ L m s Q E B F X N T hk hd hu hret
  ktn_step
  exact hret _ _ _ _ _ _ _ (by k_asm) (by assumption) (by ktn_ord)
theorem c_runC (w : World) (op bits : Int) (to tb : Tok) (sg un : Bool) (ra : Addr) (h43 : findBy Value.isInt es43 op = none) (h53 : findBy Value.isInt es53 op = some (.ref ra)) (hop : op ≠ 211) (hra : (hd.heap_39 w.params).lookup ra = some ⟨.type "tuple", none, .seq [.int bits tb, .bool sg, .bool un].toArray 0, #[]⟩) (hb : bits = 8 ∨ bits = 16 ∨ bits = 32 ∨ bits = 64) (va : Addr) (T n : Int) (tT tn : Tok) (news : Led) (hv : (va, tupO [.int T tT, .int n tn]) ∈ news) (hT : T = 1 ∨ T = 2 ∨ T = 3) : Con w 132 5 [.int op to, .ref va] news (fun P =>
    (inR (exactV n T un) bits.toNat sg → ∀ a b t0 t1 t2, P (.ref a) [(a, tupO [.ref b, .int 0 t0]), (b, tupO [.int (tagOf op bits) t1, .int (ovV (exactV n T un) bits sg) t2])]) ∧ (¬ inR (exactV n T un) bits.toNat sg → ∀ a t, P (.ref a) [(a, tupO [.none, .int 2 t])])) := by
  intro mean mg mb dp un gd cn cs a ccd cl outer A₀ base h₀ L m s Q E B F X N T hk hd hu hret
  ktn_step
  · exact hret.1 ((by assumption : _ ↔ inR _ _ _).mp (by assumption)) _ _ _ _ _ _ _ (by k_asm) (news_d2 (by assumption)) (by ktn_ord)
  · exact hret.2 (fun k => Bool.eq_false_iff.mp (by assumption) ((by assumption : _ ↔ inR _ _ _).mpr k)) _ _ _ _ (by k_asm) (news_d1 (by assumption)) (by ktn_ord)
theorem c_runO (w : World) (op : Int) (to : Tok) (h43 : findBy Value.isInt es43 op = none) (h53 : findBy Value.isInt es53 op = none) (va : Addr) (T n : Int) (tT tn : Tok) (news : Led) (hv : (va, tupO [.int T tT, .int n tn]) ∈ news) (hT : T = 1 ∨ T = 2 ∨ T = 3) : Con w 132 5 [.int op to, .ref va] news (fun P => ∀ a t, P (.ref a) [(a, tupO [.none, .int 3 t])]) := by
  intro mean mg mb dp un gd cn cs a ccd cl outer A₀ base h₀ L m s Q E B F X N T hk hd hu hret
  ktn_step
  exact hret _ _ _ _ (by k_asm) (by assumption) (by ktn_ord)
theorem c_runT (w : World) (op : Int) (to : Tok) (va : Addr) (T : Int) (tT : Tok) (rest : List Value) (news : Led) (hv : (va, tupO (.int T tT :: rest)) ∈ news) (hT : 4 ≤ T) : Con w 132 5 [.int op to, .ref va] news (fun P => ∀ a t, P (.ref a) [(a, tupO [.none, .int 3 t])]) := by
  intro mean mg mb dp un gd cn cs a ccd cl outer A₀ base h₀ L m s Q E B F X N T hk hd hu hret
  ktn_step
  exact hret _ _ _ _ (by k_asm) (by assumption) (by ktn_ord)
end
section
theorem words11 : True := by
  k_with_none
  (k_with "eval Call" => k_dflt (refine Call_ ?_))
  trivial
def octs : Int → Nat → List Int
  | _, 0 => []
  | n, k + 1 => n.fmod 256 :: octs (n.fdiv 256) k
def plainN : List Int → Int
  | [] => 0
  | o :: r => o + 256 * plainN r
def signedN (ns : List Int) : Int := if ns.getLastD 0 ≥ 128 then plainN ns - 256 ^ ns.length else plainN ns
def moreN (ns : List Int) (sg : Bool) : Int := if sg = true ∧ ns.getLastD 0 ≥ 128 then 255 else 0
def spreadN (ns : List Int) (c : Nat) (sg : Bool) : List Int := ns.take c ++ List.replicate (c - ns.length) (moreN (ns.take c) sg)
def bytes (ns : List Int) : Prop := ∀ o ∈ ns, 0 ≤ o ∧ o < 256
def Kb (k : Int) : Prop := 0 ≤ k ∧ k ≤ 8
def stackN (s : Int) : Int := if s = 8 then 8 else 4
theorem octs_len (n : Int) : ∀ k, (octs n k).length = k
  | 0 => rfl
  | k + 1 => congrArg (· + 1) (octs_len _ k)
theorem octs_bytes : ∀ (k : Nat) (n : Int), bytes (octs n k)
  | 0, _ => fun _ h => nomatch h
  | k + 1, n => fun o h => by
    rcases List.mem_cons.mp h with rfl | h
    · rw [Int.fmod_eq_emod_of_nonneg n (by decide)]
      exact ⟨Int.emod_nonneg _ (by decide), Int.emod_lt_of_pos _ (by decide)⟩
    · exact octs_bytes k _ o h
theorem octs_succ (n : Int) (k : Nat) : octs n (k + 1) = n % 256 :: octs (n / 256) k := by
  rw [octs, Int.fmod_eq_emod_of_nonneg n (by decide), Int.fdiv_eq_ediv_of_nonneg n (by decide)]
theorem div_pow (n : Int) (k : Nat) : n / 256 / 256 ^ k = n / 256 ^ (k + 1) := by
  rw [Int.ediv_ediv_of_nonneg (by decide), Int.pow_succ, Int.mul_comm]
theorem octs_app : ∀ (k c : Nat) (n : Int), octs n (k + c) = octs n k ++ octs (n / 256 ^ k) c
  | 0, c, n => by simp [octs]
  | k + 1, c, n => by
    rw [show k + 1 + c = k + c + 1 by rw [Nat.add_right_comm], octs_succ, octs_succ, octs_app k c, div_pow, List.cons_append]
section
variable {prog : Program} {w : World} {A : Around} {E : Value → Shared → Prop} {s : Shared} {env : Env} {h₀ : Heap} {x : PySem.Str} {body : List Stmt} {Q : Flow → Shared → Prop} {L D : Addr} {n : Int} {j c : Nat} {m₀ : PySem.Str → Option Value} {news tl : Led} {s₁ : Shared} {vs : List Value}
theorem ints_snoc : ∀ {vs : List Value} {ns : List Int} {o : Int} {t : Tok}, IntsAre vs ns → IntsAre (vs ++ [.int o t]) (ns ++ [o])
  | _, _, _, _, .nil => .cons _ _ .nil
  | _, _, _, _, .cons o t h => .cons o t (ints_snoc h)
def OctPost (h₀ : Heap) (L D : Addr) (tl : Led) (n : Int) (j : Nat) (x : PySem.Str) (m₀ : PySem.Str → Option Value) (s₁ : Shared) (Q : Flow → Shared → Prop) (f : Flow) (s₂ : Shared) : Prop :=
  match f with
  | .ret v => Q (.ret v) s₂
  | .brk => Q .next s₂
  | _ => ∃ h' tk m' vs c tn, s₂ = { s₁ with heap := h', toks := tk } ∧ Fr h₀ L h' m' ∧ News h₀ L h' ((D, listOf (List.toArray vs) c) :: tl) ∧ IntsAre vs (octs n (j + 1)) ∧ m' (Str.ofString "n") = some (.int (n / 256 ^ (j + 1)) tn) ∧ ∀ z, z ≠ x → z ≠ Str.ofString "n" → m' z = m₀ z
theorem oct_end {h' : Heap} {tk : Nat} {m' : PySem.Str → Option Value} {t tn : Tok} (hi : IntsAre vs (octs n j)) (F : Fr h₀ L h' m') (N : News h₀ L h' ((D, listOf (vs.toArray.push (.int ((n / 256 ^ j).fmod 256) t)) c) :: tl)) (hm : m' (Str.ofString "n") = some (.int ((n / 256 ^ j).fdiv 256) tn)) (hz : ∀ z, z ≠ x → z ≠ Str.ofString "n" → m' z = m₀ z) :
    OctPost h₀ L D tl n j x m₀ s₁ Q .next { s₁ with heap := h', toks := tk } := by
  rw [List.push_toArray] at N
  refine ⟨h', tk, m', _, c, tn, rfl, F, N, ?_, ?_, hz⟩
  · rw [octs_app j 1 n]
    exact ints_snoc hi
  · rw [hm, Int.fdiv_eq_ediv_of_nonneg _ (by decide), Int.ediv_ediv_of_nonneg (Int.pow_nonneg (by decide)), ← Int.pow_succ]
theorem loop_oct {r : Addr} {k : Int} {t₀ u₀ v₀ tn₀ : Tok} {c₀ : Nat}
    (hh : A.handled = none) (hr : IsRange s.heap r 0 k 1 t₀ u₀ v₀) (hk : Kb k) (F : Fr h₀ env.locals s.heap m₀) (N : News h₀ env.locals s.heap ((D, listOf #[] c₀) :: news)) (hD : ∀ q ∈ news, q.1 < D) (hm : m₀ (Str.ofString "n") = some (.int n tn₀))
    (turn : ∀ j i t vs c tn h tk tl, IntsAre vs (octs n j) → vs.toArray.size ≤ sizeLine → (∀ q ∈ tl, q.1 ≠ D) → Fr h₀ env.locals h (fun y => if y = x then some (.int i t) else if y = Str.ofString "n" then some (.int (n / 256 ^ j) tn) else m₀ y) → News h₀ env.locals h ((D, listOf (List.toArray vs) c) :: tl) →
      wpAny (model prog w) A (execs body env) (OctPost h₀ env.locals D tl n j x m₀ { s with heap := h, toks := tk } Q) E { s with heap := h, toks := tk })
    (done : ∀ (iv nv : Option Value) vs c h tk, IntsAre vs (octs n k.toNat) → Fr h₀ env.locals h (fun y => if y = x then iv else if y = Str.ofString "n" then nv else m₀ y) → News h₀ env.locals h ((D, listOf (List.toArray vs) c) :: news) → Q .next { s with heap := h, toks := tk }) :
    wpAny (model prog w) A (pyIter (.ref r)) (fun it s₂ => LoopAtV prog w A h₀ env x body Q E it s₂) E s := by
  unfold Kb at hk
  refine tbr_invG (n := k.toNat) (fun j m₁ nx => ∃ vs c tn, nx = (D, listOf (List.toArray vs) c) :: news ∧ IntsAre vs (octs n j) ∧ m₁ (Str.ofString "n") = some (.int (n / 256 ^ j) tn) ∧ ∀ z, z ≠ x → z ≠ Str.ofString "n" → m₁ z = m₀ z) hh hr (small_one (by decide) (by decide) (by omega) (by omega)) (by rw [rangeSize_nat, Int.sub_zero]) F N ⟨[], c₀, tn₀, rfl, .nil, by rw [hm, Int.pow_zero, Int.ediv_one], fun _ _ _ => rfl⟩ ?_ ?_
  · rintro j i t m₁ nx h tk own hi hoff ⟨vs, c, tn, rfl, h1, h2, h3⟩ F₁ N₁
    have hj : j < k.toNat := by
      have := (List.getElem?_eq_some_iff.mp hi).1
      rwa [rangeKs_length] at this
    have hoD : ∀ p ∈ own, p.1 ≠ D := fun p hp => hoff p hp _ (.head _)
    have e : (fun y => if y = x then some (Value.int i t) else m₁ y) = fun y => if y = x then some (Value.int i t) else if y = Str.ofString "n" then some (.int (n / 256 ^ j) tn) else m₀ y := by
      funext y
      by_cases hy : y = x
      · rw [if_pos hy, if_pos hy]
      · rw [if_neg hy, if_neg hy]
        by_cases hn : y = Str.ofString "n"
        · rw [if_pos hn, hn, h2]
        · rw [if_neg hn, h3 y hy hn]
    rw [e] at F₁
    refine wpAny_mono (turn j i t vs c tn h tk (news ++ own) h1 (by rw [List.size_toArray, h1.length, octs_len, sizeLine_eq]; omega) (fun q hq => (List.mem_append.mp hq).elim (fun h => Nat.ne_of_lt (hD q h)) (hoD q)) F₁ N₁) (fun f s₂ p => ?_) fun _ _ e => e
    have fin : (∃ h' tk' m' vs c tn, s₂ = { s with heap := h', toks := tk' } ∧ Fr h₀ env.locals h' m' ∧ News h₀ env.locals h' ((D, listOf (List.toArray vs) c) :: (news ++ own)) ∧ IntsAre vs (octs n (j + 1)) ∧ m' (Str.ofString "n") = some (.int (n / 256 ^ (j + 1)) tn) ∧ ∀ z, z ≠ x → z ≠ Str.ofString "n" → m' z = m₀ z) → TbEnd h₀ env.locals (fun m₁ nx => ∃ vs c tn, nx = (D, listOf (List.toArray vs) c) :: news ∧ IntsAre vs (octs n (j + 1)) ∧ m₁ (Str.ofString "n") = some (.int (n / 256 ^ (j + 1)) tn) ∧ ∀ z, z ≠ x → z ≠ Str.ofString "n" → m₁ z = m₀ z) own { s with heap := h, toks := tk } s₂ := by
      rintro ⟨h', tk', m', vs', c', tn', e', F', N', a1, a2, a3⟩
      refine ⟨h', tk', m', _, (D, listOf (List.toArray vs') c') :: news, e', F', N', fun p hp => ?_, fun p hp => .tail _ (List.mem_append_right _ hp), fun p hp q hq => ?_, vs', c', tn', rfl, a1, a2, a3⟩
      · rcases List.mem_cons.mp hp with rfl | hp
        · exact .head _
        · exact .tail _ (List.mem_append_left _ hp)
      · rcases List.mem_cons.mp hq with rfl | hq
        · exact hoD p hp
        · exact hoff p hp q (.tail _ hq)
    cases f with
    | ret v => exact p
    | brk => exact p
    | next => exact fin p
    | cont => exact fin p
  · rintro m₁ nx h tk ⟨vs, c, tn, rfl, h1, h2, h3⟩ F₁ N₁
    have e : m₁ = fun y => if y = x then m₁ x else if y = Str.ofString "n" then m₁ (Str.ofString "n") else m₀ y := by
      funext y
      by_cases hy : y = x
      · rw [if_pos hy, hy]
      · rw [if_neg hy]
        by_cases hn : y = Str.ofString "n"
        · rw [if_pos hn, hn]
        · rw [if_neg hn, h3 y hy hn]
    rw [e] at F₁
    exact done _ _ vs c h tk h1 F₁ N₁
theorem fr_is {h : Heap} {m m' : PySem.Str → Option Value} (F : Fr h₀ L h m) (e : m = m') : Fr h₀ L h m' := e ▸ F
end
theorem words12 : True := by
  (k_with "call builtin:list.append" => k_dflt (refine' append_K ?F ?N (Upd.head ?U) ?_ ?Z; (case F => k_asm); (case N => k_asm); (case U => assumption); (case Z => assumption); k_whole; intro h' F' N'))
  (k_with "pyIter ref" => ((with_reducible show wpAny _ _ (pyIter (Value.ref _)) (fun it s₂ => LoopAtV _ _ _ _ _ _ _ _ _ it s₂) _ _); k_dflt (refine' loop_oct ?hh ?hr ?hb ?F ?N ?D ?hm ?_ ?_; (case hh => exact rfl); (case hr => assumption); (case hb => assumption); (case F => k_asm); (case N => k_asm); (case D => assumption); (case hm => rfl)); (focus (intro j i t vs c tn h tk tl hi hz ho F N; (try dsimp only); (try k_fold))); (rotate_left 1); (focus (intro iv nv vs c h tk hi F N; (try dsimp only); (try k_fold))); (rotate_right 1)))
  trivial
theorem c_octG (w : World) (n k : Int) (tn tc : Tok) (news : Led) (hk : Kb k) : Con w 180 1 [.int n tn, .int k tc] news (fun P => ∀ a vs c, IntsAre vs (octs n k.toNat) → P (.ref a) [(a, listOf vs.toArray c)]) := by
  intro mean mg mb dp un gd cn cs a ccd cl outer A₀ base h₀ L m s Q E B F X N T hk hd hu hret
  ktn_step
  all_goals first
    | exact oct_end (by assumption) (by assumption) (by assumption) (if_pos rfl) (fun z h1 h2 => by simp only [if_neg h1, if_neg h2])
    | exact hret _ _ _ (by assumption) _ _ (by k_asm) (by assumption) (ord1 (by assumption))
end
section
theorem words13 : True := by
  k_with_none
  (k_with "eval Call" => k_dflt (refine Call_ ?_))
  trivial
section
variable {prog : Program} {w : World} {A : Around} {E : Value → Shared → Prop} {s : Shared} {env : Env} {h₀ : Heap} {x : PySem.Str} {body : List Stmt} {Q : Flow → Shared → Prop}
abbrev Mp := PySem.Str → Option Value
abbrev Fam := (Mp → Prop) → Prop
def JEnd (h₀ : Heap) (L : Addr) (J : (Mp → Led → Prop) → Prop) (s : Shared) (f : Flow) (s₂ : Shared) : Prop :=
  f = .next ∧ ∃ h' tk m' news', s₂ = { s with heap := h', toks := tk } ∧ Fr h₀ L h' m' ∧ News h₀ L h' news' ∧ ∀ P, J P → P m' news'
theorem join {L : Addr} {st : Stmt} (J : (Mp → Led → Prop) → Prop) (h1 : wpAny (model prog w) A (exec st env) (JEnd h₀ L J s) E s)
    (h2 : J (fun m' news' => ∀ h tk, Fr h₀ L h m' → News h₀ L h news' → Q .next { s with heap := h, toks := tk })) : wpAny (model prog w) A (exec st env) Q E s := by
  refine wpAny_mono h1 (fun f s₂ p => ?_) fun _ _ e => e
  obtain ⟨rfl, h', tk, m', news', rfl, F, N, k⟩ := p
  exact k _ h2 h' tk F N
def TPost (h₀ : Heap) (L : Addr) (J : Fam) (need : Led) (s₁ : Shared) (Q : Flow → Shared → Prop) (f : Flow) (s₂ : Shared) : Prop :=
  match f with
  | .ret v => Q (.ret v) s₂
  | .brk => Q .next s₂
  | _ => ∃ h' tk m' news', s₂ = { s₁ with heap := h', toks := tk } ∧ Fr h₀ L h' m' ∧ News h₀ L h' news' ∧ (∀ p ∈ need, p ∈ news') ∧ ∀ P, J P → P m'
end
section
variable {prog : Program} {w : World} {A : Around} {E : Value → Shared → Prop} {s : Shared} {env : Env} {h₀ : Heap} {L : Addr} {Q : Flow → Shared → Prop}
inductive JV (k : Nat) (X : Int) : Prop where
  | mk : JV k X
theorem join_int {st : Stmt} {m₀ : Mp} {news : Led} (y : PySem.Str) (k : Nat) {X : Int} (uhX : JV k X) (F : Fr h₀ L s.heap m₀) (N : News h₀ L s.heap news)
    (h1 : wpAny (model prog w) A (exec st env) (JEnd h₀ L (fun P => ∀ t, P (fun z => if z = y then some (.int X t) else m₀ z) news) s) E s)
    (h2 : ∀ t h tk, Fr h₀ L h (fun z => if z = y then some (.int X t) else m₀ z) → News h₀ L h news → Q .next { s with heap := h, toks := tk }) : wpAny (model prog w) A (exec st env) Q E s :=
  join _ h1 h2
theorem jend_int {h' : Heap} {m₀ : Mp} {y : PySem.Str} {X X' : Int} {t : Tok} {tk : Nat} {news : Led} (F : Fr h₀ L h' (fun z => if z = y then some (.int X' t) else m₀ z)) (N : News h₀ L h' news) (e : X' = X) :
    JEnd h₀ L (fun P => ∀ t, P (fun z => if z = y then some (.int X t) else m₀ z) news) s .next { s with heap := h', toks := tk } := by
  subst e
  exact ⟨rfl, h', tk, _, news, rfl, F, N, fun P h => h t⟩
end
theorem moreN_byte (ns : List Int) (sg : Bool) : 0 ≤ moreN ns sg ∧ moreN ns sg < 256 := by
  unfold moreN
  split <;> decide
theorem spread_bytes {ns : List Int} (h : bytes ns) (c : Nat) (sg : Bool) : bytes (spreadN ns c sg) := fun o ho => by
  rcases List.mem_append.mp ho with ho | ho
  · exact h o (List.mem_of_mem_take ho)
  · rw [List.eq_of_mem_replicate ho]
    exact moreN_byte _ _
theorem spread_len (ns : List Int) (c : Nat) (sg : Bool) : (spreadN ns c sg).length = c := by
  rw [spreadN, List.length_append, List.length_take, List.length_replicate]
  rcases Nat.le_total c ns.length with h | h
  · rw [Nat.min_eq_left h, Nat.sub_eq_zero_of_le h, Nat.add_zero]
  · rw [Nat.min_eq_right h, Nat.add_sub_cancel' h]
def Lb (ns : List Int) : Prop := 1 ≤ ns.length ∧ ns.length ≤ 8
section
variable {prog : Program} {w : World} {A : Around} {E : Value → Shared → Prop} {s : Shared} {h₀ : Heap} {L a : Addr} {news : Led} {vs : List Value} {ns : List Int} {c : Nat} {Q : Value → Shared → Prop}
theorem item_lst {value slice : Expr} {k : Int} {u : Tok} {v : Value} (N : News h₀ L s.heap news) (hv : (a, listOf vs.toArray c) ∈ news) (h0 : 0 ≤ k) (hhi : k < 2 ^ 63) (hx : vs[k.toNat]? = some v) (h : Q v s)
    (hs : subscripted slice false (.ref a) (.int k u) = operate [.ref a, .int k u] (getItem (.ref a) (.int k u)) := by with_unfolding_all rfl) :
    wpAny (model prog w) A (subscriptTail value slice (.ref a) (.int k u)) Q E s :=
  have hL := News.isList N hv
  tail_any hL.typeIs slot_list_getitem.lookup (wpAny_getItem_list hL h0 hhi (by simpa using hx) h) hs
theorem item_lstN {value slice : Expr} {u t : Tok} {o : Int} (N : News h₀ L s.heap news) (hv : (a, listOf vs.toArray c) ∈ news) (h1 : 1 ≤ vs.length) (hx : vs[vs.length - 1]? = some (.int o t)) (h : Q (.int o t) s)
    (hs : subscripted slice false (.ref a) (.int (-1) u) = operate [.ref a, .int (-1) u] (getItem (.ref a) (.int (-1) u)) := by with_unfolding_all rfl) :
    wpAny (model prog w) A (subscriptTail value slice (.ref a) (.int (-1) u)) Q E s :=
  have hL := News.isList N hv
  tail_any hL.typeIs slot_list_getitem.lookup (wpAny_getItem_list_neg hL (by decide) (by rw [List.size_toArray]; omega) (by decide) (x := .int o t) (by
    rw [List.size_toArray, show ((-1 : Int) + (vs.length : Int)).toNat = vs.length - 1 by omega]
    simpa using hx) h) hs
theorem len_lst (N : News h₀ L s.heap news) (hv : (a, listOf vs.toArray c) ∈ news) (hi : IntsAre vs ns) (hl : Lb ns) (h : Q (.int (ns.length : Int) (s.toks + 1)) { s with toks := s.toks + 1 + 1 }) : wpAny (model prog w) A (call (.builtin "len") [.ref a]) Q E s := by
  have e : vs.toArray.size = ns.length := by rw [List.size_toArray, hi.length]
  refine len_list (News.isList N hv) ?_ ?_
  · rw [e]
    have := hl.2
    omega
  · rw [e]
    exact h
theorem len_sz (hi : IntsAre vs ns) (hl : Lb ns) : vs.toArray.size ≤ sizeLine := by
  have := hl.2
  rw [List.size_toArray, hi.length, sizeLine_eq]
  omega
theorem last_is (hi : IntsAre vs ns) (hl : Lb ns) : 1 ≤ vs.length ∧ ∃ t, vs[vs.length - 1]? = some (.int (ns.getLastD 0) t) := by
  have h := hi.length
  have h1 := hl.1
  refine ⟨by omega, ?_⟩
  have hx : vs[vs.length - 1]? = some (vs[vs.length - 1]'(by omega)) := List.getElem?_eq_getElem _
  obtain ⟨t, e⟩ := IntsAre.int_at hi _ _ hx
  refine ⟨t, ?_⟩
  rw [hx, e, h]
  congr 2
  rw [List.getD_eq_getElem?_getD, List.getLastD_eq_getLast?, List.getLast?_eq_getElem?]
end
section
variable {prog : Program} {w : World} {A : Around} {E : Value → Shared → Prop} {s : Shared} {env : Env} {h₀ : Heap} {x : PySem.Str} {body : List Stmt} {Q : Flow → Shared → Prop} {L D : Addr} {m₀ : PySem.Str → Option Value} {news tl : Led} {s₁ : Shared} {vs : List Value} {ns : List Int}
def PlPost (h₀ : Heap) (L : Addr) (tl : Led) (v : Int) (x : PySem.Str) (m₀ : PySem.Str → Option Value) (s₁ : Shared) (Q : Flow → Shared → Prop) (f : Flow) (s₂ : Shared) : Prop :=
  match f with
  | .ret v => Q (.ret v) s₂
  | .brk => Q .next s₂
  | _ => ∃ h' tk m' tn, s₂ = { s₁ with heap := h', toks := tk } ∧ Fr h₀ L h' m' ∧ News h₀ L h' tl ∧ m' (Str.ofString "n") = some (.int v tn) ∧ ∀ z, z ≠ x → z ≠ Str.ofString "n" → m' z = m₀ z
theorem pl_end {h' : Heap} {tk : Nat} {m' : PySem.Str → Option Value} {v : Int} {tn : Tok} (F : Fr h₀ L h' m') (N : News h₀ L h' tl) (hm : m' (Str.ofString "n") = some (.int v tn)) (hz : ∀ z, z ≠ x → z ≠ Str.ofString "n" → m' z = m₀ z) :
    PlPost h₀ L tl v x m₀ s₁ Q .next { s₁ with heap := h', toks := tk } := ⟨h', tk, m', tn, rfl, F, N, hm, hz⟩
theorem loop_pl {r : Addr} {t₀ u₀ v₀ tn₀ : Tok}
    (hh : A.handled = none) (hr : IsRange s.heap r 0 (ns.length : Int) 1 t₀ u₀ v₀) (hi : IntsAre vs ns) (hl : Lb ns) (F : Fr h₀ env.locals s.heap m₀) (N : News h₀ env.locals s.heap news) (hm : m₀ (Str.ofString "n") = some (.int 0 tn₀))
    (turn : ∀ (i v o : Int) t tn u h tk tl, 0 ≤ (ns.length : Int) - 1 - i → (ns.length : Int) - 1 - i < 2 ^ 63 → vs[((ns.length : Int) - 1 - i).toNat]? = some (.int o u) → (∀ p ∈ news, p ∈ tl) → Fr h₀ env.locals h (fun y => if y = x then some (.int i t) else if y = Str.ofString "n" then some (.int v tn) else m₀ y) → News h₀ env.locals h tl →
      wpAny (model prog w) A (execs body env) (PlPost h₀ env.locals tl (v * 256 + o) x m₀ { s with heap := h, toks := tk } Q) E { s with heap := h, toks := tk })
    (done : ∀ (iv : Option Value) tn h tk, Fr h₀ env.locals h (fun y => if y = x then iv else if y = Str.ofString "n" then some (.int (plainN ns) tn) else m₀ y) → News h₀ env.locals h news → Q .next { s with heap := h, toks := tk }) :
    wpAny (model prog w) A (pyIter (.ref r)) (fun it s₂ => LoopAtV prog w A h₀ env x body Q E it s₂) E s := by
  have hl1 := hl.1
  have hl2 := hl.2
  refine tbr_invG (n := ns.length) (fun j m₁ nx => nx = news ∧ ∃ tn, m₁ (Str.ofString "n") = some (.int (plainN (ns.drop (ns.length - j))) tn) ∧ ∀ z, z ≠ x → z ≠ Str.ofString "n" → m₁ z = m₀ z) hh hr (small_one (by decide) (by decide) (by omega) (by omega)) (by rw [rangeSize_nat, Int.sub_zero, Int.toNat_natCast]) F N ⟨rfl, tn₀, by rw [hm, Nat.sub_zero, List.drop_length]; rfl, fun _ _ _ => rfl⟩ ?_ ?_
  · rintro j i t m₁ nx h tk own hj hoff ⟨rfl, tn, h2, h3⟩ F₁ N₁
    have hk : j < ns.length ∧ i = (j : Int) := by
      have h1 := List.getElem?_eq_some_iff.mp hj
      obtain ⟨h5, h6⟩ := h1
      rw [rangeKs_length] at h5
      refine ⟨h5, ?_⟩
      rw [← h6]
      simp [rangeKs]
    obtain ⟨hjl, rfl⟩ := hk
    have e : (fun y => if y = x then some (Value.int j t) else m₁ y) = fun y => if y = x then some (Value.int j t) else if y = Str.ofString "n" then some (.int (plainN (ns.drop (ns.length - j))) tn) else m₀ y := by
      funext y
      by_cases hy : y = x
      · rw [if_pos hy, if_pos hy]
      · rw [if_neg hy, if_neg hy]
        by_cases hn : y = Str.ofString "n"
        · rw [if_pos hn, hn, h2]
        · rw [if_neg hn, h3 y hy hn]
    rw [e] at F₁
    have hp : ((ns.length : Int) - 1 - (j : Int)).toNat = ns.length - (j + 1) := by omega
    have hvl := hi.length
    have hx : vs[ns.length - (j + 1)]? = some (vs[ns.length - (j + 1)]'(by omega)) := List.getElem?_eq_getElem _
    obtain ⟨u, eu⟩ := IntsAre.int_at hi _ _ hx
    rw [eu] at hx
    have hd : plainN (ns.drop (ns.length - j)) * 256 + ns.getD (ns.length - (j + 1)) 0 = plainN (ns.drop (ns.length - (j + 1))) := by
      rw [List.drop_eq_getElem_cons (i := ns.length - (j + 1)) (by omega), plainN, show ns.length - (j + 1) + 1 = ns.length - j by omega, List.getD_eq_getElem?_getD, List.getElem?_eq_getElem (by omega), Option.getD_some, Int.mul_comm, Int.add_comm]
    refine wpAny_mono (turn j _ _ t tn u h tk (nx ++ own) (by omega) (by omega) (by rw [hp]; exact hx) (fun p hp => List.mem_append_left _ hp) F₁ N₁) (fun f s₂ p => ?_) fun _ _ e => e
    rw [hd] at p
    have fin : (∃ h' tk' m' tn, s₂ = { s with heap := h', toks := tk' } ∧ Fr h₀ env.locals h' m' ∧ News h₀ env.locals h' (nx ++ own) ∧ m' (Str.ofString "n") = some (.int (plainN (ns.drop (ns.length - (j + 1)))) tn) ∧ ∀ z, z ≠ x → z ≠ Str.ofString "n" → m' z = m₀ z) → TbEnd h₀ env.locals (fun m₁ nx' => nx' = nx ∧ ∃ tn, m₁ (Str.ofString "n") = some (.int (plainN (ns.drop (ns.length - (j + 1)))) tn) ∧ ∀ z, z ≠ x → z ≠ Str.ofString "n" → m₁ z = m₀ z) own { s with heap := h, toks := tk } s₂ := by
      rintro ⟨h', tk', m', tn', e', F', N', a1, a2⟩
      exact ⟨h', tk', m', _, nx, e', F', N', fun p hp => List.mem_append_left _ hp, fun p hp => List.mem_append_right _ hp, hoff, rfl, tn', a1, a2⟩
    cases f with
    | ret v => exact p
    | brk => exact p
    | next => exact fin p
    | cont => exact fin p
  · rintro m₁ nx h tk ⟨rfl, tn, h2, h3⟩ F₁ N₁
    rw [Nat.sub_self, List.drop_zero] at h2
    have e : m₁ = fun y => if y = x then m₁ x else if y = Str.ofString "n" then some (.int (plainN ns) tn) else m₀ y := by
      funext y
      by_cases hy : y = x
      · rw [if_pos hy, hy]
      · rw [if_neg hy]
        by_cases hn : y = Str.ofString "n"
        · rw [if_pos hn, hn, h2]
        · rw [if_neg hn, h3 y hy hn]
    rw [e] at F₁
    exact done _ tn h tk F₁ N₁
end
theorem words14 : True := by
  (k_with "subscriptTail Name BinOp ref int" => ((with_reducible show wpAny _ _ (subscriptTail _ _ (Value.ref _) (Value.int _ _)) _ _ _); k_dflt (refine' item_lst ?N ?m ?a ?b ?d ?_; (case N => k_asm); (case m => k_mem); (case a => with_reducible assumption); (case b => with_reducible assumption); (case d => with_reducible assumption))))
  (k_with "subscriptTail" => ((with_reducible show wpAny _ _ (subscriptTail _ _ (Value.ref _) (Value.int _ _)) _ _ _); k_dflt (refine' item_lstN ?N ?m ?h ?d ?_; (case N => k_asm); (case m => k_mem); (case h => with_reducible assumption); (case d => with_reducible assumption))))
  (k_with "call builtin:len" => k_dflt (refine' len_lst ?N ?m ?i ?l ?_; (case N => k_asm); (case m => k_mem); (case i => assumption); (case l => assumption)))
  (k_with "binaryOp Mult int int" => k_dflt (refine mul_int ?_ (IntMulOk.of_right (by decide))))
  (k_with "pyIter ref" => ((with_reducible show wpAny _ _ (pyIter (Value.ref _)) (fun it s₂ => LoopAtV _ _ _ _ _ _ _ _ _ it s₂) _ _); k_dflt (refine' loop_pl ?hh ?hr ?hi ?hl ?F ?N ?hm ?_ ?_; (case hh => exact rfl); (case hr => assumption); (case hi => assumption); (case hl => assumption); (case F => k_asm); (case N => k_asm); (case hm => rfl)); (focus (intro i v o t tn u h tk tl h1 h2 hx hs F N; (have hv9 := hs _ (by assumption)); (try dsimp only); (try k_fold))); (rotate_left 1); (focus (intro iv tn h tk F N; (try dsimp only); (try k_fold))); (rotate_right 1)))
  trivial
theorem c_plainG (w : World) (ha : Addr) (vs : List Value) (ns : List Int) (c : Nat) (news : Led) (hv : (ha, listOf vs.toArray c) ∈ news) (hi : IntsAre vs ns) (hl : Lb ns) : Con w 194 1 [.ref ha] news (fun P => ∀ t, P (.int (plainN ns) t) []) := by
  intro mean mg mb dp un gd cn cs a ccd cl outer A₀ base h₀ L m s Q E B F X N T hk hd hu hret
  ktn_step
  all_goals first
    | exact pl_end (by assumption) (by assumption) (if_pos rfl) (fun z h1 h2 => by simp only [if_neg h1, if_neg h2])
    | exact hret _ _ _ (by k_asm) (by assumption) ord0
theorem words15 : True := by
  (k_with "subscriptTail Name UnaryOp ref int" => (k_dflt (refine' item_lstN ?N ?m ?h ?d ?_; (case N => k_asm); (case m => k_mem); (case h => with_reducible assumption); (case d => with_reducible assumption))))
  (k_with "binaryOp Pow int int" => (k_dflt (refine' pow_int_small ?a ?b (by decide) ?_; (case a => with_reducible assumption); (case b => with_reducible assumption))))
  (k_with "call ref" => (k_dflt (cell_ask (c_plainG _ _ _ _ _ _ (by k_mem) (by assumption) (by assumption))); (try dsimp only [List.nil_append, List.cons_append]); intros; (try k_fold)))
  trivial
theorem sgn_hi {ns : List Int} (h : 128 ≤ ns.getLastD 0) : plainN ns - 256 ^ ((ns.length : Int)).toNat = signedN ns := by
  rw [signedN, if_pos h, Int.toNat_natCast]
theorem sgn_lo {ns : List Int} (h : ¬ 128 ≤ ns.getLastD 0) : plainN ns = signedN ns := by rw [signedN, if_neg h]
theorem c_signedG (w : World) (ha : Addr) (vs : List Value) (ns : List Int) (c : Nat) (news : Led) (hv : (ha, listOf vs.toArray c) ∈ news) (hi : IntsAre vs ns) (hl : Lb ns) : Con w 201 2 [.ref ha] news (fun P => ∀ t, P (.int (signedN ns) t) []) := by
  obtain ⟨hl1, tl, hl2⟩ := last_is hi hl
  have p1 : (0 : Int) ≤ ns.length := Int.natCast_nonneg _
  have p2 : (ns.length : Int) ≤ 1000000 := Int.le_trans (Int.ofNat_le.mpr hl.2) (by decide)
  intro mean mg mb dp un gd cn cs a ccd cl outer A₀ base h₀ L m s Q E B F X N T hk hd hu hret
  ktn_step
  all_goals first
    | exact q_int (sgn_hi (by assumption)) (hret _ _ _ (by k_asm) (by assumption) ord0)
    | exact q_int (sgn_lo (by assumption)) (hret _ _ _ (by k_asm) (by assumption) ord0)
theorem c_stack (w : World) (s : Int) (ts : Tok) (news : Led) : Con w 208 1 [.int s ts] news (fun P => ∀ t, P (.int (stackN s) t) []) := by
  intro mean mg mb dp un gd cn cs a ccd cl outer A₀ base h₀ L m s' Q E B F X N T hk hd hu hret
  ktn_step
  · exact q_int (if_pos (by assumption)).symm (hret _ _ _ (by k_asm) (by assumption) ord0)
  · exact q_int (if_neg (by assumption)).symm (hret _ _ _ (by k_asm) (by assumption) ord0)
end
section
theorem words16 : True := by
  k_with_none
  (k_with "eval Call" => k_dflt (refine Call_ ?_))
  trivial
def Kc (k : Int) : Prop := 1 ≤ k ∧ k ≤ 8
section
variable {prog : Program} {w : World} {A : Around} {E : Value → Shared → Prop} {s : Shared} {env : Env} {h₀ : Heap} {L D l : Addr} {m : Mp} {news rest : Led} {vs : List Value} {ns ms : List Int} {c : Nat} {k mv : Int}
theorem lb_take (hl : Lb ns) (hk : Kc k) : Lb (ns.take k.toNat) := by
  rw [Lb, List.length_take]
  exact ⟨Nat.le_min.mpr ⟨Int.toNat_le_toNat hk.1, hl.1⟩, Nat.le_trans (Nat.min_le_right _ _) hl.2⟩
theorem slice_upto {value slice : Expr} {u : Tok} {Q : Value → Shared → Prop} (F : Fr h₀ L s.heap m) (N : News h₀ L s.heap news) (hv : (l, listOf vs.toArray c) ∈ news) (hi : IntsAre vs ns) (hl : Lb ns) (hk : Kc k)
    (h : ∀ D ws h' t, Fr h₀ L h' m → News h₀ L h' ((D, listOf (List.toArray ws) 0) :: news) → (∀ p ∈ news, p.1 < D) → IntsAre ws (ns.take k.toNat) → Lb (ns.take k.toNat) → 1 ≤ ws.length → ws[ws.length - 1]? = some (.int ((ns.take k.toNat).getLastD 0) t) → Q (.ref D) { s with heap := h' })
    (hs : subscripted slice false (.ref l) (.ref s.heap.objs.size) = operate [.ref s.heap.objs.size, .ref l] (getItem (.ref l) (.ref s.heap.objs.size))) (ht : ∀ r, letTemporaryGo value (.ref l) r = pure ()) :
    wpAny (model prog w) A (subscriptTail value slice (.ref l) (.ref s.heap.objs.size)) Q E { s with heap := s.heap.push { cls := .type "slice", data := .fields #[.none, .int k u, .none] } } := by
  have hb := lb_take hl hk
  refine kmk_slice_ints F N (News.isList N hv) IsPart.none (IsPart.int k u) hi (kmk_upto hi (Int.le_trans (by decide) hk.1)) rfl (fun D ws h' F' N' l1 hw _ _ => ?_) hs ht (len_sz hi hl)
  obtain ⟨h1, t, h2⟩ := last_is hw hb
  exact h D ws h' t F' N' l1 hw hb h1 h2
def FillPost (h₀ : Heap) (L D : Addr) (rest : Led) (m : Mp) (xs : List Int) (mv k : Int) (s₁ : Shared) (f : Flow) (s₂ : Shared) : Prop :=
  f = .next ∧ (xs.length : Int) < k ∧ ∃ h' tk vs c, s₂ = { s₁ with heap := h', toks := tk } ∧ Fr h₀ L h' m ∧ News h₀ L h' ((D, listOf (List.toArray vs) c) :: rest) ∧ IntsAre vs (xs ++ [mv])
theorem fill_end {s₁ : Shared} {h' : Heap} {tk : Nat} {xs : List Int} {t : Tok} (hi : IntsAre vs xs) (hlt : (xs.length : Int) < k) (F : Fr h₀ L h' m) (N : News h₀ L h' ((D, listOf (vs.toArray.push (.int mv t)) c) :: rest)) : FillPost h₀ L D rest m xs mv k s₁ .next { s₁ with heap := h', toks := tk } := by
  rw [List.push_toArray] at N
  exact ⟨rfl, hlt, h', tk, _, c, rfl, F, N, ints_snoc hi⟩
theorem while_fill {test : Expr} {body : List Stmt} {pos : Pos} {Q : Flow → Shared → Prop} (F : Fr h₀ L s.heap m) (N : News h₀ L s.heap ((D, listOf vs.toArray c) :: rest)) (hi : IntsAre vs ms) (hl : Lb ms) (hk : Kc k) (hD : ∀ q ∈ rest, q.1 < D) {tm : Tok} (uhm : m (Str.ofString "more") = some (.int mv tm))
    (turn : ∀ vs c xs h tk, IntsAre vs xs → Lb xs → vs.toArray.size ≤ sizeLine → (∀ q ∈ rest, q.1 ≠ D) → (¬ (xs.length : Int) < k → xs = ms ++ List.replicate (k.toNat - ms.length) mv) → Fr h₀ L h m → News h₀ L h ((D, listOf (List.toArray vs) c) :: rest) →
      wpAny (model prog w) A (isTrue test env (eval test env)) (fun b s₂ =>
        if b = true then wpAny (model prog w) A (execs body env) (FillPost h₀ L D rest m xs mv k s) E s₂ else Q .next s₂) E { s with heap := h, toks := tk })
    (hE : PassesOwn (model prog w) A env E := by passes_own) :
    wpAny (model prog w) A (exec (.While test body [] pos) env) Q E s := by
  obtain ⟨K, rfl⟩ := Int.eq_ofNat_of_zero_le (Int.le_trans (by decide) hk.1)
  have hK : K ≤ 8 := Int.ofNat_le.mp hk.2
  have h1 := hl.1
  have h2 := hl.2
  clear hk hl
  simp only [Int.toNat_natCast] at turn
  refine While_inv (n₀ := K - ms.length) (fun n m₁ nx => m₁ = m ∧ ∃ j vs c, n = K - ms.length - j ∧ (j = 0 ∨ ms.length + j ≤ K) ∧ nx = (D, listOf (List.toArray vs) c) :: rest ∧ IntsAre vs (ms ++ List.replicate j mv)) F N ⟨rfl, 0, vs, c, rfl, .inl rfl, rfl, by rw [List.replicate_zero, List.append_nil]; exact hi⟩ ?_ hE
  rintro n m₁ nx h tk F₁ N₁ ⟨rfl, j, ws, d, rfl, hj, rfl, hw⟩
  have hlen : (ms ++ List.replicate j mv).length = ms.length + j := by rw [List.length_append, List.length_replicate]
  have hb : Lb (ms ++ List.replicate j mv) := by rw [Lb, hlen]; exact ⟨Nat.le_trans h1 (Nat.le_add_right _ _), hj.elim (fun e => e ▸ h2) fun e => Nat.le_trans e hK⟩
  refine wpAny_mono (turn ws d _ h tk hw hb (len_sz hw hb) (fun q hq => Nat.ne_of_lt (hD q hq)) (fun hn => ?_) F₁ N₁) (fun b s₂ p => ?_) fun _ _ e => e
  · rw [hlen] at hn
    have hn : ¬ ms.length + j < K := fun h => hn (Int.ofNat_lt.mpr h)
    clear h1 h2 hK
    rw [show K - ms.length = j by omega]
  · cases b with
    | false => exact p
    | true =>
      refine wpAny_mono p (fun f s₃ q => ?_) fun _ _ e => e
      obtain ⟨rfl, hlt, h', tk', vs', c', e', F', N', hi'⟩ := q
      rw [hlen] at hlt
      have hlt : ms.length + j < K := Int.ofNat_lt.mp hlt
      refine ⟨rfl, h', tk', _, _, K - ms.length - (j + 1), e', F', N', ?_, rfl, j + 1, vs', c', rfl, .inr hlt, rfl, ?_⟩
      · clear h1 h2 hK hj
        omega
      · rw [List.replicate_succ', ← List.append_assoc]
        exact hi'
theorem spread_is {xs : List Int} {sg : Bool} (hl : Lb ns) (hk : Kc k) (e : xs = ns.take k.toNat ++ List.replicate (k.toNat - (ns.take k.toNat).length) (moreN (ns.take k.toNat) sg)) : xs = spreadN ns k.toNat sg := by
  have q : k.toNat - min k.toNat ns.length = k.toNat - ns.length := by
    rcases Nat.le_total k.toNat ns.length with h | h
    · rw [Nat.min_eq_left h, Nat.sub_self, Nat.sub_eq_zero_of_le h]
    · rw [Nat.min_eq_right h]
  rw [e, spreadN, List.length_take, q]
end
theorem ints_cast {vs : List Value} {ns ms : List Int} (h : IntsAre vs ms) (e : ms = ns) : IntsAre vs ns := e ▸ h
theorem moreN_hi {ns : List Int} {sg : Bool} (h1 : sg = true) (h2 : 128 ≤ ns.getLastD 0) : 255 = moreN ns sg := (if_pos ⟨h1, h2⟩).symm
theorem moreN_lo {ns : List Int} {sg : Bool} (h2 : ¬ 128 ≤ ns.getLastD 0) : 0 = moreN ns sg := (if_neg fun h => h2 h.2).symm
theorem moreN_no {ns : List Int} {sg : Bool} (h1 : sg = false) : 0 = moreN ns sg := (if_neg fun h => Bool.false_ne_true (h1 ▸ h.1)).symm
theorem join_more {prog : Program} {w : World} {A : Around} {E : Value → Shared → Prop} {s : Shared} {env : Env} {h₀ : Heap} {L : Addr} {Q : Flow → Shared → Prop} {st : Stmt} {m₀ : Mp} {news : Led} {ns : List Int} {sg : Bool} {k : Int} (uhl : Lb (ns.take k.toNat)) (uhs : sg = sg)  (F : Fr h₀ L s.heap m₀) (N : News h₀ L s.heap news)
    (h1 : wpAny (model prog w) A (exec st env) (JEnd h₀ L (fun P => ∀ t, P (fun z => if z = Str.ofString "more" then some (.int (moreN (ns.take k.toNat) sg) t) else m₀ z) news) s) E s)
    (h2 : ∀ t h tk, Fr h₀ L h (fun z => if z = Str.ofString "more" then some (.int (moreN (ns.take k.toNat) sg) t) else m₀ z) → News h₀ L h news → Q .next { s with heap := h, toks := tk }) : wpAny (model prog w) A (exec st env) Q E s :=
  join _ h1 h2
theorem jend_more {h₀ h' : Heap} {L : Addr} {s : Shared} {m₀ m' : Mp} {y : PySem.Str} {X X' : Int} {t : Tok} {tk : Nat} {news : Led} (F : Fr h₀ L h' m') (N : News h₀ L h' news) (e : X' = X) (hy : m' y = some (.int X' t)) (hz : ∀ z, z ≠ y → m' z = m₀ z) :
    JEnd h₀ L (fun P => ∀ t, P (fun z => if z = y then some (.int X t) else m₀ z) news) s .next { s with heap := h', toks := tk } := by
  subst e
  refine ⟨rfl, h', tk, _, news, rfl, F, N, fun P h => ?_⟩
  have e : m' = fun z => if z = y then some (.int X' t) else m₀ z := by
    funext z
    by_cases h1 : z = y
    · rw [if_pos h1, h1, hy]
    · rw [if_neg h1, hz z h1]
  rw [e]
  exact h t
theorem words17 : True := by
  (k_with "subscriptTail Name Slice ref ref" => (k_dflt (refine' slice_upto ?F ?N ?m ?i ?l ?k ?_ ?hs ?ht; (case F => k_asm); (case N => k_asm); (case m => k_mem); (case i => assumption); (case l => assumption); (case k => assumption); (case hs => with_unfolding_all rfl); (case ht => (intro _; with_unfolding_all rfl)); k_whole; intro D ws h' t F' N' l1 hw hb h1 h2)))
  (k_with "subscriptTail Name UnaryOp ref int" => (k_dflt (refine' item_lstN ?N ?m ?h ?d ?_; (case N => k_asm); (case m => k_mem); (case h => with_reducible assumption); (case d => with_reducible assumption))))
  (k_with "exec While Compare cons nil" => (k_dflt (refine' while_fill ?F ?N ?i ?l ?k ?D ?V ?_; (case F => k_asm); (case N => k_asm); (case i => assumption); (case l => assumption); (case k => assumption); (case D => assumption); (case V => rfl)); intro vs c xs h tk hi hl hz hD hx F N))
  (k_with "call builtin:list.append" => k_dflt (refine' append_K ?F ?N (Upd.head ?U) ?_ ?Z; (case F => k_asm); (case N => k_asm); (case U => assumption); (case Z => assumption); k_whole; intro h' F' N'))
  (k_with "exec If" => ((with_reducible show wpAny _ _ (exec (Stmt.If (PySem.Expr.BoolOp _ _ _) _ _ _) _) _ _ _); (fail_if_success (with_reducible show wpAny _ _ _ (JEnd _ _ _ _) _ _)); k_dflt (refine' join_more (by assumption) (by assumption) ?F ?N ?_ ?_; (case F => k_asm); (case N => k_asm)); (rotate_left 1); (focus (intros; (try k_fold))); (rotate_right 1)))
  (k_with "call builtin:len" => k_dflt (refine' len_lst ?N ?m ?i ?l ?_; (case N => k_asm); (case m => k_mem); (case i => assumption); (case l => assumption)))
  trivial
theorem c_spreadG (w : World) (k : Int) (ha : Addr) (vs : List Value) (ns : List Int) (c : Nat) (news : Led) (hv : (ha, listOf vs.toArray c) ∈ news) (hi : IntsAre vs ns) (hl : Lb ns) (hk : Kc k) (sg : Bool) (tk : Tok) : Con w 187 2 [.ref ha, .int k tk, .bool sg] news (fun P => ∀ a vs c, IntsAre vs (spreadN ns k.toNat sg) → P (.ref a) [(a, listOf vs.toArray c)]) := by
  have hsg : sg = sg := rfl
  intro mean mg mb dp un gd cn cs a ccd cl outer A₀ base h₀ L m s Q E B F X N T hk hd hu hret
  ktn_step
  all_goals first
    | exact jend_more (by assumption) (by assumption) (moreN_hi (by assumption) (by assumption)) (if_pos rfl) (fun z h1 => by simp only [if_neg h1])
    | exact jend_more (by assumption) (by assumption) (moreN_lo (by assumption)) (if_pos rfl) (fun _ _ => rfl)
    | exact jend_more (by assumption) (by assumption) (moreN_no (by assumption)) (if_pos rfl) (fun _ _ => rfl)
    | exact fill_end (by assumption) (by assumption) (by assumption) (by assumption)
    | exact hret _ _ _ (ints_cast hi (spread_is (by assumption) (by assumption) (hx (by assumption)))) _ _ (by k_asm) (by assumption) (ord1 (by assumption))
end
section
theorem words18 : True := by
  k_with_none
  (k_with "eval Call" => k_dflt (refine Call_ ?_))
  trivial
def keptN (ns : List Int) (size : Int) (sg : Bool) : Int := signedN (spreadN (spreadN ns size.toNat sg) (stackN size).toNat sg)
theorem news_t2 {h₀ h : Heap} {L : Addr} {news : Led} {p q : Addr × Obj} (N : News h₀ L h (p :: q :: news)) : News h₀ L h ([] ++ news) := fun x hx => N x (.tail _ (.tail _ hx))
theorem item_K {prog : Program} {w : World} {A : Around} {E : Value → Shared → Prop} {s : Shared} {h₀ : Heap} {L a : Addr} {m : Mp} {K : Frag} {l : List Value} {value slice : Expr} {k : Int} {u : Tok} {v : Value} {Q : Value → Shared → Prop} (F : Fr h₀ L s.heap m) (X : K.In h₀) (hl : K.lookup a = some ⟨.type "tuple", none, .seq l.toArray 0, #[]⟩) (h0 : 0 ≤ k ∧ k < 8) (hx : l[k.toNat]? = some v) (h : Q v s)
    (hs : subscripted slice false (.ref a) (.int k u) = operate [.ref a, .int k u] (getItem (.ref a) (.int k u)) := by with_unfolding_all rfl) :
    wpAny (model prog w) A (subscriptTail value slice (.ref a) (.int k u)) Q E s := by
  have hk := (List.getElem?_eq_some_iff.mp hx).1
  have ht : IsTup s.heap a l.toArray := ⟨_, (X.keeps F.keep) _ _ hl, rfl, _, rfl⟩
  exact tail_any ht.typeIs slot_tuple_getitem.lookup (getItem_tuple ht (by omega) (by omega) (seqIndex_of h0.1 (by rw [List.size_toArray]; omega)) (x := v) (by simpa using hx) h) hs
theorem kc_stack (size : Int) : Kc (stackN size) := by
  unfold stackN
  split
  · exact ⟨by decide, by decide⟩
  · exact ⟨by decide, by decide⟩
theorem lb_spread {ns : List Int} {k : Int} {sg : Bool} (hk : Kc k) : Lb (spreadN ns k.toNat sg) := by
  have := hk.1
  have := hk.2
  rw [Lb, spread_len]
  omega
theorem words19 : True := by
  (k_with "call ref" => (k_dflt (cell_ask (c_plainG _ _ _ _ _ _ (by k_mem) (by assumption) (by assumption))); (try dsimp only [List.nil_append, List.cons_append]); intros; (try k_fold)))
  (k_with "call ref" => (k_dflt (cell_ask (c_signedG _ _ _ _ _ _ (by k_mem) (by assumption) (by assumption))); (try dsimp only [List.nil_append, List.cons_append]); intros; (try k_fold)))
  (k_with "call ref" => (k_dflt (cell_ask (c_stack _ _ _ _)); (try dsimp only [List.nil_append, List.cons_append]); intros; (try k_fold)))
  (k_with "call ref" => (k_dflt (cell_ask (c_spreadG _ _ _ _ _ _ _ (by k_mem) (by assumption) (by assumption) (by assumption) _ _)); (try dsimp only [List.nil_append, List.cons_append]); intros; (try k_fold)))
  (k_with "subscriptTail Name Constant ref int" => (k_dflt (refine' item_K ?F ?X ?l ?z ?x ?_; (case F => k_asm); (case X => k_asm); (case l => assumption); (case z => decide); (case x => rfl))))
  trivial
theorem c_kept (w : World) (ra : Addr) (op size : Int) (to ts : Tok) (sg : Bool) (rest : List Value) (hra : (hd.heap_39 w.params).lookup ra = some ⟨.type "tuple", none, .seq (.int op to :: .int size ts :: .bool sg :: rest).toArray 0, #[]⟩) (hs : Kc size) (ha : Addr) (vs : List Value) (ns : List Int) (c : Nat) (news : Led) (hv : (ha, listOf vs.toArray c) ∈ news) (hi : IntsAre vs ns) (hl : Lb ns) : Con w 236 4 [.ref ha, .ref ra] news (fun P => ∀ t, P (.int (keptN ns size sg) t) []) := by
  have hk2 := kc_stack size
  have hb1 : Lb (spreadN ns size.toNat sg) := lb_spread hs
  have hb2 : Lb (spreadN (spreadN ns size.toNat sg) (stackN size).toNat sg) := lb_spread hk2
  intro mean mg mb dp un gd cn cs a ccd cl outer A₀ base h₀ L m s Q E B F X N T hk hd hu hret
  ktn_step
  exact hret _ _ _ (by k_asm) (news_t2 (by assumption)) ord0
end
section
theorem words20 : True := by
  k_with_none
  (k_with "eval Call" => k_dflt (refine Call_ ?_))
  trivial
def exR (ns : List Int) (un : Bool) : Int := if un then plainN ns else signedN ns
def loR (size : Int) (sg : Bool) : Int := if sg = true then -128 * 256 ^ (size - 1).toNat else 0
def hiR (size : Int) (sg : Bool) : Int := if sg = true then -(-128 * 256 ^ (size - 1).toNat) - 1 else 256 ^ size.toNat - 1
def okR (x size : Int) (sg : Bool) : Prop := ¬ x < loR size sg ∧ ¬ hiR size sg < x
def wrapR (x size : Int) : Int := if 256 ^ (stackN size).toNat ≤ 2 * x then x - 256 ^ (stackN size).toNat else x
def tagR (size : Int) : Int := if stackN size = 8 then 2 else 1
section
variable {prog : Program} {w : World} {A : Around} {E : Value → Shared → Prop} {s : Shared} {env : Env} {h₀ : Heap} {L : Addr} {Q : Flow → Shared → Prop}
def J2 (lo hi : Int) (m₀ : Mp) (news : Led) : (Mp → Led → Prop) → Prop := fun P => ∀ t u, P (fun z => if z = Str.ofString "high" then some (.int hi u) else if z = Str.ofString "low" then some (.int lo t) else m₀ z) news
theorem join_lh {st : Stmt} {m₀ : Mp} {news : Led} {size : Int} {sg : Bool} (uhs : Kc size) (uhg : sg = sg) (F : Fr h₀ L s.heap m₀) (N : News h₀ L s.heap news)
    (h1 : wpAny (model prog w) A (exec st env) (JEnd h₀ L (J2 (loR size sg) (hiR size sg) m₀ news) s) E s)
    (h2 : ∀ t u h tk, Fr h₀ L h (fun z => if z = Str.ofString "high" then some (.int (hiR size sg) u) else if z = Str.ofString "low" then some (.int (loR size sg) t) else m₀ z) → News h₀ L h news → Q .next { s with heap := h, toks := tk }) : wpAny (model prog w) A (exec st env) Q E s :=
  join _ h1 h2
theorem jend_lh {h' : Heap} {m₀ m' : Mp} {lo hi lo' hi' : Int} {t u : Tok} {tk : Nat} {news : Led} (F : Fr h₀ L h' m') (N : News h₀ L h' news) (e1 : lo' = lo) (e2 : hi' = hi) (hl : m' (Str.ofString "low") = some (.int lo' t)) (hh : m' (Str.ofString "high") = some (.int hi' u)) (hz : ∀ z, z ≠ Str.ofString "high" → z ≠ Str.ofString "low" → m' z = m₀ z) :
    JEnd h₀ L (J2 lo hi m₀ news) s .next { s with heap := h', toks := tk } := by
  subst e1 e2
  refine ⟨rfl, h', tk, _, news, rfl, F, N, fun P h => ?_⟩
  have e : m' = fun z => if z = Str.ofString "high" then some (.int hi' u) else if z = Str.ofString "low" then some (.int lo' t) else m₀ z := by
    funext z
    by_cases h1 : z = Str.ofString "high"
    · rw [if_pos h1, h1, hh]
    · rw [if_neg h1]
      by_cases h2 : z = Str.ofString "low"
      · rw [if_pos h2, h2, hl]
      · rw [if_neg h2, hz z h1 h2]
  rw [e]
  exact h t u
end
theorem news_run {h₀ h : Heap} {L a b : Addr} {news : Led} {g g' v v' : Int} {t1 t2 : Tok} {u : Value} (N : News h₀ L h ((a, tupO [.ref b, u]) :: (b, tupO [.int g t1, .int v t2]) :: news)) (eg : g = g') (ev : v = v') : News h₀ L h ([(a, tupO [.ref b, u]), (b, tupO [.int g' t1, .int v' t2])] ++ news) := by
  subst eg ev
  exact N
theorem words21 : True := by
  (k_with "call ref" => (k_dflt (cell_ask (c_plainG _ _ _ _ _ _ (by k_mem) (by assumption) (by assumption))); (try dsimp only [List.nil_append, List.cons_append]); intros; (try k_fold)))
  (k_with "call ref" => (k_dflt (cell_ask (c_signedG _ _ _ _ _ _ (by k_mem) (by assumption) (by assumption))); (try dsimp only [List.nil_append, List.cons_append]); intros; (try k_fold)))
  (k_with "call ref" => (k_dflt (cell_ask (c_stack _ _ _ _)); (try dsimp only [List.nil_append, List.cons_append]); intros; (try k_fold)))
  (k_with "call ref" => (k_dflt (cell_ask (c_spreadG _ _ _ _ _ _ _ (by k_mem) (by assumption) (by assumption) (by assumption) _ _)); (try dsimp only [List.nil_append, List.cons_append]); intros; (try k_fold)))
  (k_with "subscriptTail Name Constant ref int" => (k_dflt (refine' item_K ?F ?X ?l ?z ?x ?_; (case F => k_asm); (case X => k_asm); (case l => assumption); (case z => decide); (case x => rfl))))
  (k_with "binaryOp Pow int int" => (k_dflt (refine' pow_int_small ?a ?b (by decide) ?_; (case a => with_reducible assumption); (case b => with_reducible assumption))))
  (k_with "exec If" => ((with_reducible show wpAny _ _ (exec (Stmt.If (PySem.Expr.Subscript _ (PySem.Expr.Constant (Const.int 3) _ _) _) _ _ _) _) _ _ _); (fail_if_success (with_reducible show wpAny _ _ _ (JEnd _ _ _ _) _ _)); k_dflt (refine' join_int (Str.ofString "exact") 0 (by assumption) ?F ?N ?_ ?_; (case F => k_asm); (case N => k_asm)); (rotate_left 1); (focus (intros; (try k_fold))); (rotate_right 1)))
  (k_with "exec If" => ((with_reducible show wpAny _ _ (exec (Stmt.If (PySem.Expr.Subscript _ (PySem.Expr.Constant (Const.int 2) _ _) _) _ _ _) _) _ _ _); (fail_if_success (with_reducible show wpAny _ _ _ (JEnd _ _ _ _) _ _)); k_dflt (refine' join_lh (by assumption) (by assumption) ?F ?N ?_ ?_; (case F => k_asm); (case N => k_asm)); (rotate_left 1); (focus (intros; (try k_fold))); (rotate_right 1)))
  (k_with "exec If" => ((with_reducible show wpAny _ _ (exec (Stmt.If (PySem.Expr.Compare (PySem.Expr.Name "wide" _) _ _ _) _ _ _) _) _ _ _); (fail_if_success (with_reducible show wpAny _ _ _ (JEnd _ _ _ _) _ _)); k_dflt (refine' join_int (Str.ofString "tag") 1 (by assumption) ?F ?N ?_ ?_; (case F => k_asm); (case N => k_asm)); (rotate_left 1); (focus (intros; (try k_fold))); (rotate_right 1)))
  (k_with "exec If" => ((with_reducible show wpAny _ _ (exec (Stmt.If (PySem.Expr.Compare (PySem.Expr.BinOp _ _ _ _) _ _ _) _ _ _) _) _ _ _); (fail_if_success (with_reducible show wpAny _ _ _ (JEnd _ _ _ _) _ _)); k_dflt (refine' join_int (Str.ofString "exact") 2 (by assumption) ?F ?N ?_ ?_; (case F => k_asm); (case N => k_asm)); (rotate_left 1); (focus (intros; (try k_fold))); (rotate_right 1)))
  trivial
theorem c_ranged (w : World) (ra : Addr) (op size : Int) (to ts : Tok) (sg un : Bool) (hra : (hd.heap_39 w.params).lookup ra = some ⟨.type "tuple", none, .seq [.int op to, .int size ts, .bool sg, .bool un].toArray 0, #[]⟩) (hs : Kc size) (ha : Addr) (vs : List Value) (ns : List Int) (c : Nat) (news : Led) (hv : (ha, listOf vs.toArray c) ∈ news) (hi : IntsAre vs ns) (hl : Lb ns) : Con w 243 4 [.ref ha, .ref ra] news (fun P =>
    (okR (exR ns un) size sg → ∀ a b t0 t1 t2, P (.ref a) [(a, tupO [.ref b, .int 0 t0]), (b, tupO [.int (tagR size) t1, .int (wrapR (exR ns un) size) t2])]) ∧ (¬ okR (exR ns un) size sg → ∀ a t, P (.ref a) [(a, tupO [.none, .int 2 t])])) := by
  have hX : JV 0 (exR ns un) := .mk
  have hT : JV 1 (tagR size) := .mk
  have hW : JV 2 (wrapR (exR ns un) size) := .mk
  have hsg : sg = sg := rfl
  have p1 : (0 : Int) ≤ size := Int.le_trans (by decide) hs.1
  have p2 : size ≤ 1000000 := Int.le_trans hs.2 (by decide)
  have p3 : (0 : Int) ≤ size - 1 := Int.sub_nonneg_of_le hs.1
  have p4 : size - 1 ≤ 1000000 := Int.le_trans (Int.sub_le_self _ (by decide)) p2
  have p5 : (0 : Int) ≤ stackN size := Int.le_trans (by decide) (kc_stack size).1
  have p6 : stackN size ≤ 1000000 := Int.le_trans (kc_stack size).2 (by decide)
  intro mean mg mb dp un gd cn cs a ccd cl outer A₀ base h₀ L m s Q E B F X N T hk hd hu hret
  ktn_step
  all_goals first
    | exact jend_more (by assumption) (by assumption) (if_pos (by assumption)).symm (if_pos rfl) (fun z h1 => by simp only [if_neg h1])
    | exact jend_more (by assumption) (by assumption) (if_neg (by assumption)).symm (if_pos rfl) (fun z h1 => by simp only [if_neg h1])
    | exact jend_more (by assumption) (by assumption) (if_neg (by assumption)).symm rfl (fun _ _ => rfl)
    | exact jend_lh (by assumption) (by assumption) (if_pos (by assumption)).symm (if_pos (by assumption)).symm rfl rfl (fun z h1 h2 => by simp only [if_neg h1, if_neg h2])
    | exact jend_lh (by assumption) (by assumption) (if_neg (Bool.eq_false_iff.mp (by assumption))).symm (if_neg (Bool.eq_false_iff.mp (by assumption))).symm rfl rfl (fun _ _ _ => rfl)
    | exact jend_more (by assumption) (by assumption) (if_neg (Bool.eq_false_iff.mp (by assumption))).symm (if_pos rfl) (fun z h1 => by simp only [if_neg h1])
    | exact hret.2 (fun k => k.1 (by assumption)) _ _ _ _ (by k_asm) (by assumption) (ord1 (by ktn_lt))
    | exact hret.2 (fun k => k.2 (by assumption)) _ _ _ _ (by k_asm) (by assumption) (ord1 (by ktn_lt))
    | exact hret.1 ⟨by assumption, by assumption⟩ _ _ _ _ _ _ _ (by k_asm) (by assumption) (by ktn_ord)
end
section
theorem words22 : True := by
  k_with_none
  (k_with "eval Call" => k_dflt (refine Call_ ?_))
  trivial
theorem sb8 {P : Prop} : (8 : Int) = 8 ∨ P := Or.inl rfl
theorem sb16 {P Q : Prop} : P ∨ (16 : Int) = 16 ∨ Q := Or.inr (Or.inl rfl)
theorem sb32 {P Q R : Prop} : P ∨ Q ∨ (32 : Int) = 32 ∨ R := Or.inr (Or.inr (Or.inl rfl))
theorem sb64 {P Q R : Prop} : P ∨ Q ∨ R ∨ (64 : Int) = 64 := Or.inr (Or.inr (Or.inr rfl))
theorem words23 : True := by
  (k_with "call ref" => (k_dflt (cell_ask (c_wrapG _ _ _ _ _ _ (by first | exact sb8 | exact sb16 | exact sb32 | exact sb64))); (try dsimp only [List.nil_append, List.cons_append]); intros; (try k_fold)))
  trivial
theorem c_w32 (w : World) (n : Int) (tn : Tok) (news : Led) : Con w 28 2 [.int n tn] news (fun P => ∀ t, P (.int (wrapB n 32) t) []) := by
  intro mean mg mb dp un gd cn cs a ccd cl outer A₀ base h₀ L m s Q E B F X N T hk hd hu hret
  ktn_step
  exact hret _ _ _ (by k_asm) (by assumption) ord0
theorem c_w64 (w : World) (n : Int) (tn : Tok) (news : Led) : Con w 35 2 [.int n tn] news (fun P => ∀ t, P (.int (wrapB n 64) t) []) := by
  intro mean mg mb dp un gd cn cs a ccd cl outer A₀ base h₀ L m s Q E B F X N T hk hd hu hret
  ktn_step
  exact hret _ _ _ (by k_asm) (by assumption) ord0
theorem words24 : True := by
  (k_with "call ref" => (k_dflt (cell_ask (c_w32 _ _ _ _)); (try dsimp only [List.nil_append, List.cons_append]); intros; (try k_fold)))
  (k_with "call ref" => (k_dflt (cell_ask (c_w64 _ _ _ _)); (try dsimp only [List.nil_append, List.cons_append]); intros; (try k_fold)))
  trivial
def cutV (k n : Int) : Int := if k = 1 ∨ k = 4 then n % 256 else if k = 2 ∨ k = 6 then n % 65536 else if k = 3 then wrapB n 8 else if k = 5 then wrapB n 16 else if k = 9 ∨ k = 10 then wrapB n 64 else wrapB n 32
theorem c_cut (w : World) (k n : Int) (tk tn : Tok) (news : Led) : Con w 42 3 [.int k tk, .int n tn] news (fun P => ∀ t, P (.int (cutV k n) t) []) := by
  intro mean mg mb dp un gd cn cs a ccd cl outer A₀ base h₀ L m s Q E B F X N T hk hd hu hret
  ktn_step
  all_goals first
    | exact q_int (by simp [cutV, bitAnd_m8, bitAnd_m16, *]) (hret _ _ _ (by k_asm) (by assumption) ord0)
theorem news_tag {h₀ h : Heap} {L a : Addr} {news news' : Led} {x y : Int} {t : Tok} {r : List Value} (N : News h₀ L h ((a, tupO (.int x t :: r)) :: news')) (e : x = y) (hs : ∀ p ∈ news, p ∈ news') : News h₀ L h ([(a, tupO (.int y t :: r))] ++ news) := by
  subst e
  intro p hp
  rcases List.mem_cons.mp hp with rfl | hp
  · exact N _ (.head _)
  · exact N _ (.tail _ (hs _ hp))
theorem c_valueN (w : World) (T n : Int) (tT tn : Tok) (news : Led) (hT : T = 1 ∨ T = 2 ∨ T = 3) : Con w 222 1 [.int T tT, .int n tn] news (fun P => ∀ a, P (.ref a) [(a, tupO [.int T tT, .int n tn])]) := by
  intro mean mg mb dp un gd cn cs a ccd cl outer A₀ base h₀ L m s Q E B F X N T hk hd hu hret
  ktn_step
  all_goals first
    | exact hret _ _ _ (by k_asm) (by assumption) (ord1 (by ktn_lt))
theorem c_valX (w : World) (T n : Int) (tT tn : Tok) (news : Led) (hT : 4 ≤ T ∧ T ≤ 8) : Con w 222 1 [.int T tT, .int n tn] news (fun P => ∀ a t rest, P (.ref a) [(a, tupO (.int T t :: rest))]) := by
  intro mean mg mb dp un gd cn cs a ccd cl outer A₀ base h₀ L m s Q E B F X N T hk hd hu hret
  ktn_step
  · exact hret _ _ _ _ _ (by k_asm) (news_tag (by assumption) (Eq.symm (by assumption)) (fun _ h => h)) (ord1 (by ktn_lt))
  · exact hret _ _ _ _ _ (by k_asm) (news_tag (by assumption) (Eq.symm (by assumption)) (fun _ h => .tail _ (.tail _ h))) (ord1 (by ktn_lt))
  · exact hret _ _ _ _ _ (by k_asm) (news_tag (by assumption) (Eq.symm (by assumption)) (fun _ h => .tail _ (.tail _ h))) (ord1 (by ktn_lt))
  · exact hret _ _ _ _ _ (by k_asm) (news_tag (by assumption) (Eq.symm (by assumption)) (fun _ h => .tail _ (.tail _ h))) (ord1 (by ktn_lt))
  · exact hret _ _ _ _ _ (by k_asm) (news_tag (by assumption) (by omega) (fun _ h => h)) (ord1 (by ktn_lt))
theorem c_wholeN (w : World) (ga : Addr) (x : Int) (t : Tok) (news : Led) (hv : (ga, tupO [.none, .int x t]) ∈ news) : Con w 229 2 [.ref ga] news (fun P => P (.bool true) []) := by
  intro mean mg mb dp un gd cn cs a ccd cl outer A₀ base h₀ L m s Q E B F X N T hk hd hu hret
  ktn_step
  exact hret _ _ (by k_asm) (by assumption) ord0
theorem c_wholeV (w : World) (ga b : Addr) (x g v : Int) (t t1 t2 : Tok) (news : Led) (hv : (ga, tupO [.ref b, .int x t]) ∈ news) (hw : (b, tupO [.int g t1, .int v t2]) ∈ news) : Con w 229 2 [.ref ga] news (fun P => P (.bool true) []) := by
  intro mean mg mb dp un gd cn cs a ccd cl outer A₀ base h₀ L m s Q E B F X N T hk hd hu hret
  ktn_step
  exact hret _ _ (by k_asm) (by assumption) ord0
end
section
theorem emod256 (n M : Int) (hM : 0 < M) : n % (256 * M) = n % 256 + 256 * (n / 256 % M) := by
  have h1 : n = n % 256 + 256 * (n / 256 % M) + 256 * M * (n / 256 / M) := by
    have h2 := Int.emod_add_mul_ediv n 256
    have h3 := Int.emod_add_mul_ediv (n / 256) M
    rw [Int.mul_assoc, Int.add_assoc, ← Int.mul_add, h3, h2]
  have h4 := Int.emod_nonneg (n / 256) (Int.ne_of_gt hM)
  have h5 := Int.emod_lt_of_pos (n / 256) hM
  conv => lhs; rw [h1]
  rw [Int.add_mul_emod_self_left]
  exact Int.emod_eq_of_lt (by omega) (by omega)
theorem plain_octs : ∀ (k : Nat) (n : Int), plainN (octs n k) = n % 256 ^ k
  | 0, n => by simp [octs, plainN]
  | k + 1, n => by
    rw [octs_succ, plainN, plain_octs k, Int.pow_succ, Int.mul_comm (256 ^ k), emod256 n _ (Int.pow_pos (by decide))]
theorem octs_take : ∀ (c k : Nat) (n : Int), c ≤ k → (octs n k).take c = octs n c
  | 0, _, _, _ => rfl
  | c + 1, k + 1, n, h => by rw [octs, octs, List.take_succ_cons, octs_take c k _ (by omega)]
theorem octs_last : ∀ (k : Nat) (n : Int), (octs n (k + 1)).getLastD 0 = n / 256 ^ k % 256
  | 0, n => by rw [octs_succ]; simp [octs]
  | k + 1, n => by
    have h : (n % 256 :: octs (n / 256) (k + 1)).getLastD 0 = (octs (n / 256) (k + 1)).getLastD 0 := by
      rw [octs_succ]; simp
    rw [octs_succ, h, octs_last k, Int.ediv_ediv_of_nonneg (by decide), Int.pow_succ, Int.mul_comm]
theorem octs_zero : ∀ c, octs 0 c = List.replicate c 0
  | 0 => rfl
  | c + 1 => by rw [octs_succ, List.replicate_succ]; exact congrArg _ (octs_zero c)
theorem octs_neg : ∀ c, octs (-1) c = List.replicate c 255
  | 0 => rfl
  | c + 1 => by rw [octs_succ, List.replicate_succ]; exact congrArg _ (octs_neg c)
theorem octs_mod : ∀ (k : Nat) (n m : Int), n % 256 ^ k = m % 256 ^ k → octs n k = octs m k
  | 0, _, _, _ => rfl
  | k + 1, n, m, h => by
    have hp : (0 : Int) < 256 ^ k := Int.pow_pos (by decide)
    rw [Int.pow_succ, Int.mul_comm, emod256 n _ hp, emod256 m _ hp] at h
    have h1 := Int.emod_nonneg n (show (256 : Int) ≠ 0 by decide)
    have h2 := Int.emod_nonneg m (show (256 : Int) ≠ 0 by decide)
    have h3 := Int.emod_lt_of_pos n (show (0 : Int) < 256 by decide)
    have h4 := Int.emod_lt_of_pos m (show (0 : Int) < 256 by decide)
    rw [octs_succ, octs_succ, octs_mod k (n / 256) (m / 256) (by omega), show n % 256 = m % 256 by omega]
theorem signed_octs (n : Int) (k : Nat) : signedN (octs n (k + 1)) = wrapB n (8 * (k + 1)) := by
  have hp : (0 : Int) < 256 ^ k := Int.pow_pos (by decide)
  have e1 : (2 : Int) ^ (8 * (k + 1)) = 256 ^ k * 256 := by rw [← Int.pow_succ, Int.pow_mul]; rfl
  have e2 : (2 : Int) ^ (8 * (k + 1) - 1) = 256 ^ k * 128 := by
    rw [show 8 * (k + 1) - 1 = 8 * k + 7 by omega, Int.pow_add, Int.pow_mul]; rfl
  unfold signedN wrapB
  rw [octs_last, plain_octs, octs_len, e1, e2, Int.pow_succ]
  have hd : n % (256 ^ k * 256) / 256 ^ k = n / 256 ^ k % 256 := by
    have h1 := Int.emod_add_mul_ediv n (256 ^ k * 256)
    have h2 : n / 256 ^ k = (n % (256 ^ k * 256) + 256 ^ k * (256 * (n / (256 ^ k * 256)))) / 256 ^ k := by
      rw [← Int.mul_assoc, h1]
    have h3 : 0 ≤ n % (256 ^ k * 256) / 256 ^ k := Int.ediv_nonneg (Int.emod_nonneg _ (by omega)) (by omega)
    have h4 : n % (256 ^ k * 256) / 256 ^ k < 256 := Int.ediv_lt_of_lt_mul hp (by rw [Int.mul_comm]; exact Int.emod_lt_of_pos _ (by omega))
    rw [h2, Int.add_mul_ediv_left _ _ (by omega)]
    omega
  have hc : n / 256 ^ k % 256 ≥ 128 ↔ n % (256 ^ k * 256) ≥ 256 ^ k * 128 := by
    rw [← hd, Int.mul_comm (256 ^ k) 128]
    exact Int.le_ediv_iff_mul_le hp
  by_cases h : n / 256 ^ k % 256 ≥ 128
  · rw [if_pos h, if_pos (hc.mp h)]
  · rw [if_neg h, if_neg (fun k => h (hc.mpr k))]
theorem spread_le (n : Int) (k c : Nat) (sg : Bool) (h : c ≤ k) : spreadN (octs n k) c sg = octs n c := by
  rw [spreadN, octs_take c k n h, octs_len, Nat.sub_eq_zero_of_le h]
  simp
def extV (n : Int) (b : Nat) (sg : Bool) : Int := if sg then wrapB n b else n % 2 ^ b
theorem wrapB_mod (n : Int) (b : Nat) : wrapB n b % 2 ^ b = n % 2 ^ b := by
  unfold wrapB
  split
  · rw [Int.sub_emod_right, Int.emod_emod]
  · rw [Int.emod_emod]
theorem octs_wrap (n : Int) (k : Nat) : octs (wrapB n (8 * k)) k = octs n k :=
  octs_mod k _ _ (by have h := wrapB_mod n (8 * k); rw [Int.pow_mul] at h; exact h)
theorem spread_ext (n : Int) (k d : Nat) (sg : Bool) : spreadN (octs n (k + 1)) (k + 1 + d) sg = octs (extV n (8 * (k + 1)) sg) (k + 1 + d) := by
  have hp : (0 : Int) < 256 ^ (k + 1) := Int.pow_pos (by decide)
  have e1 : (2 : Int) ^ (8 * (k + 1)) = 256 ^ (k + 1) := by rw [Int.pow_mul]; rfl
  have hm : octs (extV n (8 * (k + 1)) sg) (k + 1) = octs n (k + 1) := by
    unfold extV
    split
    · exact octs_wrap n _
    · exact octs_mod _ _ _ (by rw [e1, Int.emod_emod])
  rw [octs_app (k + 1) d (extV n (8 * (k + 1)) sg), hm, spreadN, octs_len, List.take_of_length_le (by rw [octs_len]; omega), show k + 1 + d - (k + 1) = d by omega]
  refine congrArg _ ?_
  unfold moreN
  have hs := signed_octs n k
  unfold signedN at hs
  rw [octs_len, plain_octs] at hs
  have h0 := Int.emod_nonneg n (Int.ne_of_gt hp)
  have h1 := Int.emod_lt_of_pos n hp
  by_cases h : sg = true ∧ (octs n (k + 1)).getLastD 0 ≥ 128
  · rw [if_pos h.2] at hs
    rw [if_pos h, extV, if_pos h.1, ← hs, ← octs_neg]
    refine congrArg (octs · d) ?_
    rw [show n % 256 ^ (k + 1) - 256 ^ (k + 1) = n % 256 ^ (k + 1) + (-1) * 256 ^ (k + 1) by omega, Int.add_mul_ediv_right _ _ (Int.ne_of_gt hp), Int.ediv_eq_zero_of_lt h0 h1]
    rfl
  · rw [if_neg h, ← octs_zero]
    refine congrArg (octs · d) ?_
    cases sg with
    | false => rw [extV, if_neg (by decide), e1]; exact (Int.ediv_eq_zero_of_lt h0 h1).symm
    | true =>
      rw [if_neg (fun g => h ⟨rfl, g⟩)] at hs
      rw [extV, if_pos rfl, ← hs]
      exact (Int.ediv_eq_zero_of_lt h0 h1).symm
def inT (n T : Int) : Prop := if T = 2 then -(2 ^ 63) ≤ n ∧ n < 2 ^ 63 else -(2 ^ 31) ≤ n ∧ n < 2 ^ 31
def szT (T : Int) : Nat := if T = 2 then 8 else 4
theorem wr_range (n : Int) (k : Nat) : -(2 ^ k) ≤ wrapB n (k + 1) ∧ wrapB n (k + 1) < 2 ^ k := by
  have hp : (0 : Int) < 2 ^ k := Int.pow_pos (by decide)
  unfold wrapB
  rw [Nat.add_sub_cancel, Int.pow_succ]
  generalize (2 : Int) ^ k = p at hp ⊢
  have h0 := Int.emod_nonneg n (show p * 2 ≠ 0 by omega)
  have h1 := Int.emod_lt_of_pos n (show 0 < p * 2 by omega)
  generalize n % (p * 2) = m at h0 h1 ⊢
  split <;> omega
theorem wr_id {n : Int} {k : Nat} (h1 : -(2 ^ k) ≤ n) (h2 : n < 2 ^ k) : wrapB n (k + 1) = n := by
  unfold wrapB
  rw [Nat.add_sub_cancel, Int.pow_succ]
  generalize (2 : Int) ^ k = p at h1 h2 ⊢
  by_cases h : 0 ≤ n
  · rw [Int.emod_eq_of_lt h (by omega), if_neg (by omega)]
  · have e : n % (p * 2) = n + p * 2 := by
      rw [← Int.add_emod_right]
      exact Int.emod_eq_of_lt (by omega) (by omega)
    rw [e, if_pos (by omega)]
    exact Int.add_sub_cancel n _
theorem wr_wr (n : Int) {k c : Nat} (h : (2 : Int) ^ k ≤ 2 ^ c) : wrapB (wrapB n (k + 1)) (c + 1) = wrapB n (k + 1) :=
  wr_id (Int.le_trans (Int.neg_le_neg h) (wr_range n k).1) (Int.lt_of_lt_of_le (wr_range n k).2 h)
theorem wr_mod (n : Int) {b c : Nat} (h : (2 : Int) ^ b ≤ 2 ^ c) : wrapB (n % 2 ^ b) (c + 1) = n % 2 ^ b :=
  have hp : (0 : Int) < 2 ^ b := Int.pow_pos (by decide)
  wr_id (Int.le_trans (Int.neg_nonpos_of_nonneg (Int.le_of_lt (Int.pow_pos (by decide)))) (Int.emod_nonneg n (Int.ne_of_gt hp))) (Int.lt_of_lt_of_le (Int.emod_lt_of_pos n hp) h)
theorem wr_pos {x : Int} {k : Nat} (h0 : 0 ≤ x) (h : x < 2 ^ (k + 1)) : wrapB x (k + 1) = if 2 ^ (k + 1) ≤ 2 * x then x - 2 ^ (k + 1) else x := by
  unfold wrapB
  rw [Int.emod_eq_of_lt h0 h, Nat.add_sub_cancel, Int.pow_succ]
  generalize (2 : Int) ^ k = p
  by_cases hx : p ≤ x
  · rw [if_pos hx, if_pos (by omega)]
  · rw [if_neg hx, if_neg (by omega)]
theorem kept_1 (n : Int) (k : Nat) (sg : Bool) : keptN (octs n (k + 1)) 1 sg = if sg then wrapB n 8 else n % 2 ^ 8 := by
  unfold keptN
  rw [show stackN 1 = 4 from rfl, show (1 : Int).toNat = 1 from rfl, show (4 : Int).toNat = 0 + 1 + 3 from rfl, spread_le n (k + 1) 1 sg (Nat.le_add_left 1 k), spread_ext n 0 3 sg, show 0 + 1 + 3 = 3 + 1 from rfl, signed_octs]
  cases sg with
  | true => exact wr_wr n (k := 7) (c := 31) (by decide)
  | false => exact wr_mod n (b := 8) (c := 31) (by decide)
theorem kept_2 (n : Int) (k : Nat) (sg : Bool) : keptN (octs n (k + 2)) 2 sg = if sg then wrapB n 16 else n % 2 ^ 16 := by
  unfold keptN
  rw [show stackN 2 = 4 from rfl, show (2 : Int).toNat = 1 + 1 from rfl, show (4 : Int).toNat = 1 + 1 + 2 from rfl, spread_le n (k + 2) (1 + 1) sg (Nat.le_add_left 2 k), spread_ext n 1 2 sg, show 1 + 1 + 2 = 3 + 1 from rfl, signed_octs]
  cases sg with
  | true => exact wr_wr n (k := 15) (c := 31) (by decide)
  | false => exact wr_mod n (b := 16) (c := 31) (by decide)
theorem kept_4 (n : Int) (k : Nat) (sg : Bool) : keptN (octs n (k + 4)) 4 sg = wrapB n 32 := by
  unfold keptN
  rw [show stackN 4 = 4 from rfl, show (4 : Int).toNat = 3 + 1 from rfl, spread_le n (k + 4) (3 + 1) sg (Nat.le_add_left 4 k), spread_le n (3 + 1) (3 + 1) sg (Nat.le_refl _), signed_octs]
theorem kept_8 (n : Int) (sg : Bool) : keptN (octs n 8) 8 sg = wrapB n 64 := by
  unfold keptN
  rw [show stackN 8 = 8 from rfl, show (8 : Int).toNat = 7 + 1 from rfl, spread_le n 8 (7 + 1) sg (Nat.le_refl _), spread_le n (7 + 1) (7 + 1) sg (Nat.le_refl _), signed_octs]
theorem kept_84 (n : Int) (sg : Bool) : keptN (octs n 4) 8 sg = if sg then wrapB n 32 else wrapB (n % 2 ^ 32) 64 := by
  unfold keptN
  rw [show stackN 8 = 8 from rfl, show (8 : Int).toNat = 3 + 1 + 4 from rfl, spread_ext n 3 4 sg, spread_le _ _ _ sg (Nat.le_refl _), show 3 + 1 + 4 = 7 + 1 from rfl, signed_octs]
  cases sg with
  | true => exact wr_wr n (k := 31) (c := 63) (by decide)
  | false => rfl
theorem wr_mm (n : Int) (b : Nat) : wrapB (n % 2 ^ b) b = wrapB n b := by
  unfold wrapB
  rw [Int.emod_emod]
theorem plain_law (n T size : Int) (sg : Bool) (hn : inT n T) (hs : size = 1 ∨ size = 2 ∨ size = 4 ∨ size = 8) : convV n T (8 * size) sg = keptN (octs n (szT T)) size sg := by
  by_cases hT : T = 2
  · subst hT
    rw [show szT 2 = 8 from rfl]
    rcases hs with rfl | rfl | rfl | rfl
    · rw [kept_1 n 7]; cases sg <;> rfl
    · rw [kept_2 n 6]; cases sg <;> rfl
    · rw [kept_4 n 4]; cases sg <;> rfl
    · rw [kept_8 n]
      cases sg with
      | true => rfl
      | false => exact wr_mm n 64
  · rw [show szT T = 4 from if_neg hT]
    rcases hs with rfl | rfl | rfl | rfl
    · rw [kept_1 n 3]; cases sg <;> rfl
    · rw [kept_2 n 2]; cases sg <;> rfl
    · rw [kept_4 n 0]; cases sg <;> rfl
    · rw [kept_84 n]
      unfold inT at hn
      rw [if_neg hT] at hn
      cases sg with
      | true => exact (wr_id (k := 63) (Int.le_trans (by decide) hn.1) (Int.lt_trans hn.2 (by decide))).trans (wr_id (k := 31) hn.1 hn.2).symm
      | false =>
        show wrapB (uns n T) 64 = _
        rw [uns, if_neg hT]
        rfl
theorem slot_law (n k size : Int) (sg : Bool) (h : (k = 1 ∧ size = 1 ∧ sg = false) ∨ (k = 2 ∧ size = 2 ∧ sg = false) ∨ (k = 3 ∧ size = 1 ∧ sg = true) ∨ (k = 4 ∧ size = 1 ∧ sg = false) ∨ (k = 5 ∧ size = 2 ∧ sg = true) ∨ (k = 6 ∧ size = 2 ∧ sg = false) ∨ (k = 7 ∧ size = 4 ∧ sg = true) ∨ (k = 8 ∧ size = 4 ∧ sg = false) ∨ (k = 9 ∧ size = 8 ∧ sg = true) ∨ (k = 10 ∧ size = 8 ∧ sg = false) ∨ (k = 11 ∧ size = 4 ∧ sg = true)) : cutV k n = keptN (octs n 8) size sg := by
  rcases h with h | h | h | h | h | h | h | h | h | h | h <;> obtain ⟨rfl, rfl, rfl⟩ := h <;> first | rw [kept_1 n 7] | rw [kept_2 n 6] | rw [kept_4 n 4] | rw [kept_8 n]
  all_goals rfl
theorem signed_have (n T : Int) (hn : inT n T) : signedN (octs n (szT T)) = n := by
  unfold inT at hn
  unfold szT
  by_cases hT : T = 2
  · rw [if_pos hT] at hn ⊢
    rw [signed_octs n 7]
    exact wr_id (k := 63) hn.1 hn.2
  · rw [if_neg hT] at hn ⊢
    rw [signed_octs n 3]
    exact wr_id (k := 31) hn.1 hn.2
theorem exact_law (n T : Int) (un : Bool) (hn : inT n T) : exR (octs n (szT T)) un = exactV n T un := by
  cases un with
  | false => exact signed_have n T hn
  | true =>
    show plainN (octs n (szT T)) = uns n T
    rw [plain_octs]
    unfold szT uns
    split <;> rfl
theorem ok_s {x p : Int} : -p ≤ x ∧ x < p ↔ ¬ x < -p ∧ ¬ p - 1 < x := by omega
theorem ok_u {x p : Int} : 0 ≤ x ∧ x < p ↔ ¬ x < 0 ∧ ¬ p - 1 < x := by omega
theorem in_ok (x size : Int) (sg : Bool) (hs : size = 1 ∨ size = 2 ∨ size = 4 ∨ size = 8) : inR x (8 * size).toNat sg ↔ okR x size sg := by
  cases sg with
  | true => rcases hs with rfl | rfl | rfl | rfl <;> exact ok_s
  | false => rcases hs with rfl | rfl | rfl | rfl <;> exact ok_u
theorem no_wrap {x p M : Int} (h : x < p) (hp : 2 * p ≤ M) : (if M ≤ 2 * x then x - M else x) = x := if_neg (by omega)
theorem ov_wrap (x size : Int) (sg : Bool) (hs : size = 1 ∨ size = 2 ∨ size = 4 ∨ size = 8) (h : okR x size sg) : ovV x (8 * size) sg = wrapR x size := by
  have hi := (in_ok x size sg hs).mpr h
  cases sg with
  | true =>
    rcases hs with rfl | rfl | rfl | rfl
    · exact (wr_id (k := 7) hi.1 hi.2).trans (no_wrap (M := 256 ^ 4) hi.2 (by decide)).symm
    · exact (wr_id (k := 15) hi.1 hi.2).trans (no_wrap (M := 256 ^ 4) hi.2 (by decide)).symm
    · exact (wr_id (k := 31) hi.1 hi.2).trans (no_wrap (M := 256 ^ 4) hi.2 (by decide)).symm
    · exact (wr_id (k := 63) hi.1 hi.2).trans (no_wrap (M := 256 ^ 8) hi.2 (by decide)).symm
  | false =>
    rcases hs with rfl | rfl | rfl | rfl
    · exact (Int.emod_eq_of_lt hi.1 hi.2).trans (no_wrap (M := 256 ^ 4) hi.2 (by decide)).symm
    · exact (Int.emod_eq_of_lt hi.1 hi.2).trans (no_wrap (M := 256 ^ 4) hi.2 (by decide)).symm
    · exact wr_pos (k := 31) hi.1 hi.2
    · exact wr_pos (k := 63) hi.1 hi.2
theorem tag_law (op size : Int) (ho : op ≠ 211) (hs : size = 1 ∨ size = 2 ∨ size = 4 ∨ size = 8) : tagOf op (8 * size) = tagR size := by
  rcases hs with rfl | rfl | rfl | rfl <;> simp [tagOf, tagR, stackN, ho]
theorem drawn_in (T m : Int) (hT : 1 ≤ T) : inT (signedN (octs m (szT T))) T := by
  unfold inT szT
  split
  · rw [signed_octs m 7]
    exact wr_range m 63
  · rw [signed_octs m 3]
    exact wr_range m 31
end
section
theorem words25 : True := by
  k_with_none
  (k_with "eval Call" => k_dflt (refine Call_ ?_))
  trivial
def tagD (x : Int) : Int := if 8 < x.fmod 14 then x.fmod 14 - 5 else (x.fmod 14).fmod 3 + 1
def octD (T : Int) : Int := if T = 2 then 8 else 4
theorem kb_D (T : Int) : Kb (octD T) := by
  unfold octD
  split <;> exact ⟨by decide, by decide⟩
theorem lb_D (n T : Int) : Lb (octs n (octD T).toNat) := by
  rw [Lb, octs_len]
  unfold octD
  split <;> exact ⟨by decide, by decide⟩
theorem in_D (m : Int) {T : Int} (h : 1 ≤ T) : inT (signedN (octs m (octD T).toNat)) T := by
  have e := drawn_in T m h
  have k : szT T = (octD T).toNat := by
    unfold szT octD
    split <;> rfl
  rw [k] at e
  exact e
theorem tag_bd (x : Int) : 1 ≤ tagD x ∧ tagD x ≤ 8 := by
  have h1 := Int.fmod_eq_emod_of_nonneg x (show (0 : Int) ≤ 14 by decide)
  have h2 := Int.fmod_eq_emod_of_nonneg (x.fmod 14) (show (0 : Int) ≤ 3 by decide)
  unfold tagD
  split <;> omega
section
variable {prog : Program} {w : World} {A : Around} {E : Value → Shared → Prop} {s : Shared} {env : Env} {h₀ : Heap} {L : Addr} {Q : Flow → Shared → Prop}
def JN (m₀ : Mp) (news : Led) : (Mp → Led → Prop) → Prop := fun P => ∀ (N : Int) (t : Tok) (e : Option Value), P (fun z => if z = Str.ofString "n" then some (.int N t) else if z = Str.ofString "e" then e else m₀ z) news
theorem join_n {st : Stmt} {m₀ : Mp} {news : Led} (F : Fr h₀ L s.heap m₀) (N : News h₀ L s.heap news)
    (h1 : wpAny (model prog w) A (exec st env) (JEnd h₀ L (JN m₀ news) s) E s)
    (h2 : ∀ (n : Int) t e h tk, Fr h₀ L h (fun z => if z = Str.ofString "n" then some (.int n t) else if z = Str.ofString "e" then e else m₀ z) → News h₀ L h news → Q .next { s with heap := h, toks := tk }) : wpAny (model prog w) A (exec st env) Q E s :=
  join _ h1 h2
theorem jend_n {h' : Heap} {m₀ m' : Mp} {tk : Nat} {news : Led} {v : Int} {t : Tok} (F : Fr h₀ L h' m') (N : News h₀ L h' news) (hn : m' (Str.ofString "n") = some (.int v t)) (hz : ∀ z, z ≠ Str.ofString "n" → z ≠ Str.ofString "e" → m' z = m₀ z) :
    JEnd h₀ L (JN m₀ news) s .next { s with heap := h', toks := tk } := by
  refine ⟨rfl, h', tk, _, news, rfl, F, N, fun P h => ?_⟩
  have e : m' = fun z => if z = Str.ofString "n" then some (.int v t) else if z = Str.ofString "e" then m' (Str.ofString "e") else m₀ z := by
    funext z
    by_cases h1 : z = Str.ofString "n"
    · rw [if_pos h1, h1, hn]
    · rw [if_neg h1]
      by_cases h2 : z = Str.ofString "e"
      · rw [if_pos h2, h2]
      · rw [if_neg h2, hz z h1 h2]
  rw [e]
  exact h v t _
end
theorem words26 : True := by
  (k_with "binaryOp Pow int int" => (k_dflt (refine' pow_int_small ?a ?b ?c ?_; (case a => first | assumption | decide | exact (kmn_any (lo := 0) (hi := 64) rfl).1); (case b => first | decide | exact Int.le_trans (kmn_any (lo := 0) (hi := 64) rfl).2 (by decide)); (case c => decide))))
  (k_with "exec If" => ((with_reducible show wpAny _ _ (exec (Stmt.If (PySem.Expr.Compare (PySem.Expr.BinOp (PySem.Expr.Name "rest" _) _ _ _) _ _ _) _ _ _) _) _ _ _); (fail_if_success (with_reducible show wpAny _ _ _ (JEnd _ _ _ _) _ _)); k_dflt (refine' join_n ?F ?N ?_ ?_; (case F => k_asm); (case N => k_asm)); (rotate_left 1); (focus (intros; (try k_fold))); (rotate_right 1)))
  (k_with "exec If" => ((with_reducible show wpAny _ _ _ (JEnd _ _ _ _) _ _); refine wpAny_If ?_))
  (k_with "exec If" => ((with_reducible show wpAny _ _ (exec (Stmt.If (PySem.Expr.Compare (PySem.Expr.Name "t" _) _ _ _) _ _ _) _) _ _ _); (fail_if_success (with_reducible show wpAny _ _ _ (JEnd _ _ _ _) _ _)); k_dflt (refine' join_int (Str.ofString "tag") 0 (by assumption) ?F ?N ?_ ?_; (case F => k_asm); (case N => k_asm)); (rotate_left 1); (focus (intros; (try k_fold))); (rotate_right 1)))
  (k_with "exec If" => ((with_reducible show wpAny _ _ (exec (Stmt.If (PySem.Expr.Compare (PySem.Expr.Name "tag" _) _ _ _) _ _ _) _) _ _ _); (fail_if_success (with_reducible show wpAny _ _ _ (JEnd _ _ _ _) _ _)); k_dflt (refine' join_int (Str.ofString "octets") 1 (by assumption) ?F ?N ?_ ?_; (case F => k_asm); (case N => k_asm)); (rotate_left 1); (focus (intros; (try k_fold))); (rotate_right 1)))
  (k_with "call ref" => (k_dflt (cell_ask (c_octG _ _ _ _ _ _ (kb_D _))); (try dsimp only [List.nil_append, List.cons_append]); intros; (try k_fold)))
  (k_with "call ref" => (k_dflt (cell_ask (c_signedG _ _ _ _ _ _ (by k_mem) (by assumption) (lb_D _ _))); (try dsimp only [List.nil_append, List.cons_append]); intros; (try k_fold)))
  trivial
theorem c_drawn (w : World) (x : Int) (tx : Tok) (news : Led) : Con w 215 4 [.int x tx] news (fun P => ∀ a T n t1 t2, 1 ≤ T ∧ T ≤ 8 → inT n T → P (.ref a) [(a, tupO [.int T t1, .int n t2])]) := by
  have j0 : JV 0 (tagD x) := .mk
  have j1 : JV 1 (octD (tagD x)) := .mk
  intro mean mg mb dp un gd cn cs a ccd cl outer A₀ base h₀ L m s Q E B F X N T hk hd hu hret
  ktn_step
  all_goals first
    | exact jend_n (by assumption) (by assumption) (if_pos rfl) (fun z h1 h2 => by simp only [if_neg h1, if_neg h2])
    | exact jend_more (by assumption) (by assumption) (if_pos (by assumption)).symm (if_pos rfl) (fun z h1 => by simp only [if_neg h1])
    | exact jend_more (by assumption) (by assumption) (if_neg (by assumption)).symm rfl (fun _ _ => rfl)
    | exact hret _ _ _ _ _ (tag_bd x) (in_D _ (tag_bd x).1) _ _ (by k_asm) (news_d1 (by assumption)) (by ktn_ord)
end
section
theorem lk44 (P : Params) : (hd.heap_39 P).lookup 44 = some ⟨.type "tuple", none, .seq [.int 8 299, .bool true].toArray 0, #[]⟩ := by k_is
theorem lk45 (P : Params) : (hd.heap_39 P).lookup 45 = some ⟨.type "tuple", none, .seq [.int 8 300, .bool false].toArray 0, #[]⟩ := by k_is
theorem lk46 (P : Params) : (hd.heap_39 P).lookup 46 = some ⟨.type "tuple", none, .seq [.int 16 301, .bool true].toArray 0, #[]⟩ := by k_is
theorem lk47 (P : Params) : (hd.heap_39 P).lookup 47 = some ⟨.type "tuple", none, .seq [.int 16 302, .bool false].toArray 0, #[]⟩ := by k_is
theorem lk48 (P : Params) : (hd.heap_39 P).lookup 48 = some ⟨.type "tuple", none, .seq [.int 32 303, .bool true].toArray 0, #[]⟩ := by k_is
theorem lk49 (P : Params) : (hd.heap_39 P).lookup 49 = some ⟨.type "tuple", none, .seq [.int 32 304, .bool false].toArray 0, #[]⟩ := by k_is
theorem lk50 (P : Params) : (hd.heap_39 P).lookup 50 = some ⟨.type "tuple", none, .seq [.int 64 305, .bool true].toArray 0, #[]⟩ := by k_is
theorem lk51 (P : Params) : (hd.heap_39 P).lookup 51 = some ⟨.type "tuple", none, .seq [.int 64 306, .bool false].toArray 0, #[]⟩ := by k_is
theorem lk52 (P : Params) : (hd.heap_39 P).lookup 52 = some ⟨.type "tuple", none, .seq [.int 32 307, .bool true].toArray 0, #[]⟩ := by k_is
theorem lk54 (P : Params) : (hd.heap_39 P).lookup 54 = some ⟨.type "tuple", none, .seq [.int 8 318, .bool true, .bool false].toArray 0, #[]⟩ := by k_is
theorem lk55 (P : Params) : (hd.heap_39 P).lookup 55 = some ⟨.type "tuple", none, .seq [.int 8 320, .bool false, .bool false].toArray 0, #[]⟩ := by k_is
theorem lk56 (P : Params) : (hd.heap_39 P).lookup 56 = some ⟨.type "tuple", none, .seq [.int 16 322, .bool true, .bool false].toArray 0, #[]⟩ := by k_is
theorem lk57 (P : Params) : (hd.heap_39 P).lookup 57 = some ⟨.type "tuple", none, .seq [.int 16 324, .bool false, .bool false].toArray 0, #[]⟩ := by k_is
theorem lk58 (P : Params) : (hd.heap_39 P).lookup 58 = some ⟨.type "tuple", none, .seq [.int 32 326, .bool true, .bool false].toArray 0, #[]⟩ := by k_is
theorem lk59 (P : Params) : (hd.heap_39 P).lookup 59 = some ⟨.type "tuple", none, .seq [.int 32 328, .bool false, .bool false].toArray 0, #[]⟩ := by k_is
theorem lk60 (P : Params) : (hd.heap_39 P).lookup 60 = some ⟨.type "tuple", none, .seq [.int 64 330, .bool true, .bool false].toArray 0, #[]⟩ := by k_is
theorem lk61 (P : Params) : (hd.heap_39 P).lookup 61 = some ⟨.type "tuple", none, .seq [.int 64 332, .bool false, .bool false].toArray 0, #[]⟩ := by k_is
theorem lk62 (P : Params) : (hd.heap_39 P).lookup 62 = some ⟨.type "tuple", none, .seq [.int 8 334, .bool true, .bool true].toArray 0, #[]⟩ := by k_is
theorem lk63 (P : Params) : (hd.heap_39 P).lookup 63 = some ⟨.type "tuple", none, .seq [.int 8 336, .bool false, .bool true].toArray 0, #[]⟩ := by k_is
theorem lk64 (P : Params) : (hd.heap_39 P).lookup 64 = some ⟨.type "tuple", none, .seq [.int 16 338, .bool true, .bool true].toArray 0, #[]⟩ := by k_is
theorem lk65 (P : Params) : (hd.heap_39 P).lookup 65 = some ⟨.type "tuple", none, .seq [.int 16 340, .bool false, .bool true].toArray 0, #[]⟩ := by k_is
theorem lk66 (P : Params) : (hd.heap_39 P).lookup 66 = some ⟨.type "tuple", none, .seq [.int 32 342, .bool true, .bool true].toArray 0, #[]⟩ := by k_is
theorem lk67 (P : Params) : (hd.heap_39 P).lookup 67 = some ⟨.type "tuple", none, .seq [.int 32 344, .bool false, .bool true].toArray 0, #[]⟩ := by k_is
theorem lk68 (P : Params) : (hd.heap_39 P).lookup 68 = some ⟨.type "tuple", none, .seq [.int 64 346, .bool true, .bool true].toArray 0, #[]⟩ := by k_is
theorem lk69 (P : Params) : (hd.heap_39 P).lookup 69 = some ⟨.type "tuple", none, .seq [.int 64 348, .bool false, .bool true].toArray 0, #[]⟩ := by k_is
theorem lk133 (P : Params) : (hd.heap_39 P).lookup 133 = some ⟨.type "tuple", none, .seq [.int 103 436, .int 1 437, .bool true, .int 1 438].toArray 0, #[]⟩ := by k_is
theorem lk134 (P : Params) : (hd.heap_39 P).lookup 134 = some ⟨.type "tuple", none, .seq [.int 104 439, .int 2 440, .bool true, .int 1 441].toArray 0, #[]⟩ := by k_is
theorem lk135 (P : Params) : (hd.heap_39 P).lookup 135 = some ⟨.type "tuple", none, .seq [.int 105 442, .int 4 443, .bool true, .int 1 444].toArray 0, #[]⟩ := by k_is
theorem lk136 (P : Params) : (hd.heap_39 P).lookup 136 = some ⟨.type "tuple", none, .seq [.int 106 445, .int 8 446, .bool true, .int 2 447].toArray 0, #[]⟩ := by k_is
theorem lk137 (P : Params) : (hd.heap_39 P).lookup 137 = some ⟨.type "tuple", none, .seq [.int 109 448, .int 4 449, .bool false, .int 1 450].toArray 0, #[]⟩ := by k_is
theorem lk138 (P : Params) : (hd.heap_39 P).lookup 138 = some ⟨.type "tuple", none, .seq [.int 110 451, .int 8 452, .bool false, .int 2 453].toArray 0, #[]⟩ := by k_is
theorem lk139 (P : Params) : (hd.heap_39 P).lookup 139 = some ⟨.type "tuple", none, .seq [.int 209 454, .int 2 455, .bool false, .int 1 456].toArray 0, #[]⟩ := by k_is
theorem lk140 (P : Params) : (hd.heap_39 P).lookup 140 = some ⟨.type "tuple", none, .seq [.int 210 457, .int 1 458, .bool false, .int 1 459].toArray 0, #[]⟩ := by k_is
theorem lk141 (P : Params) : (hd.heap_39 P).lookup 141 = some ⟨.type "tuple", none, .seq [.int 211 460, .int 4 461, .bool true, .int 3 462].toArray 0, #[]⟩ := by k_is
theorem lk143 (P : Params) : (hd.heap_39 P).lookup 143 = some ⟨.type "tuple", none, .seq [.int 179 464, .int 1 465, .bool true, .bool false].toArray 0, #[]⟩ := by k_is
theorem lk144 (P : Params) : (hd.heap_39 P).lookup 144 = some ⟨.type "tuple", none, .seq [.int 180 466, .int 1 467, .bool false, .bool false].toArray 0, #[]⟩ := by k_is
theorem lk145 (P : Params) : (hd.heap_39 P).lookup 145 = some ⟨.type "tuple", none, .seq [.int 181 468, .int 2 469, .bool true, .bool false].toArray 0, #[]⟩ := by k_is
theorem lk146 (P : Params) : (hd.heap_39 P).lookup 146 = some ⟨.type "tuple", none, .seq [.int 182 470, .int 2 471, .bool false, .bool false].toArray 0, #[]⟩ := by k_is
theorem lk147 (P : Params) : (hd.heap_39 P).lookup 147 = some ⟨.type "tuple", none, .seq [.int 183 472, .int 4 473, .bool true, .bool false].toArray 0, #[]⟩ := by k_is
theorem lk148 (P : Params) : (hd.heap_39 P).lookup 148 = some ⟨.type "tuple", none, .seq [.int 184 474, .int 4 475, .bool false, .bool false].toArray 0, #[]⟩ := by k_is
theorem lk149 (P : Params) : (hd.heap_39 P).lookup 149 = some ⟨.type "tuple", none, .seq [.int 185 476, .int 8 477, .bool true, .bool false].toArray 0, #[]⟩ := by k_is
theorem lk150 (P : Params) : (hd.heap_39 P).lookup 150 = some ⟨.type "tuple", none, .seq [.int 186 478, .int 8 479, .bool false, .bool false].toArray 0, #[]⟩ := by k_is
theorem lk151 (P : Params) : (hd.heap_39 P).lookup 151 = some ⟨.type "tuple", none, .seq [.int 130 480, .int 1 481, .bool true, .bool true].toArray 0, #[]⟩ := by k_is
theorem lk152 (P : Params) : (hd.heap_39 P).lookup 152 = some ⟨.type "tuple", none, .seq [.int 131 482, .int 2 483, .bool true, .bool true].toArray 0, #[]⟩ := by k_is
theorem lk153 (P : Params) : (hd.heap_39 P).lookup 153 = some ⟨.type "tuple", none, .seq [.int 132 484, .int 4 485, .bool true, .bool true].toArray 0, #[]⟩ := by k_is
theorem lk154 (P : Params) : (hd.heap_39 P).lookup 154 = some ⟨.type "tuple", none, .seq [.int 133 486, .int 8 487, .bool true, .bool true].toArray 0, #[]⟩ := by k_is
theorem lk155 (P : Params) : (hd.heap_39 P).lookup 155 = some ⟨.type "tuple", none, .seq [.int 134 488, .int 1 489, .bool false, .bool true].toArray 0, #[]⟩ := by k_is
theorem lk156 (P : Params) : (hd.heap_39 P).lookup 156 = some ⟨.type "tuple", none, .seq [.int 135 490, .int 2 491, .bool false, .bool true].toArray 0, #[]⟩ := by k_is
theorem lk157 (P : Params) : (hd.heap_39 P).lookup 157 = some ⟨.type "tuple", none, .seq [.int 136 492, .int 4 493, .bool false, .bool true].toArray 0, #[]⟩ := by k_is
theorem lk158 (P : Params) : (hd.heap_39 P).lookup 158 = some ⟨.type "tuple", none, .seq [.int 137 494, .int 8 495, .bool false, .bool true].toArray 0, #[]⟩ := by k_is
theorem lk160 (P : Params) : (hd.heap_39 P).lookup 160 = some ⟨.type "tuple", none, .seq [.int 1 497, .int 1 498, .bool false].toArray 0, #[]⟩ := by k_is
theorem lk161 (P : Params) : (hd.heap_39 P).lookup 161 = some ⟨.type "tuple", none, .seq [.int 2 499, .int 2 500, .bool false].toArray 0, #[]⟩ := by k_is
theorem lk162 (P : Params) : (hd.heap_39 P).lookup 162 = some ⟨.type "tuple", none, .seq [.int 3 501, .int 1 502, .bool true].toArray 0, #[]⟩ := by k_is
theorem lk163 (P : Params) : (hd.heap_39 P).lookup 163 = some ⟨.type "tuple", none, .seq [.int 4 503, .int 1 504, .bool false].toArray 0, #[]⟩ := by k_is
theorem lk164 (P : Params) : (hd.heap_39 P).lookup 164 = some ⟨.type "tuple", none, .seq [.int 5 505, .int 2 506, .bool true].toArray 0, #[]⟩ := by k_is
theorem lk165 (P : Params) : (hd.heap_39 P).lookup 165 = some ⟨.type "tuple", none, .seq [.int 6 507, .int 2 508, .bool false].toArray 0, #[]⟩ := by k_is
theorem lk166 (P : Params) : (hd.heap_39 P).lookup 166 = some ⟨.type "tuple", none, .seq [.int 7 509, .int 4 510, .bool true].toArray 0, #[]⟩ := by k_is
theorem lk167 (P : Params) : (hd.heap_39 P).lookup 167 = some ⟨.type "tuple", none, .seq [.int 8 511, .int 4 512, .bool false].toArray 0, #[]⟩ := by k_is
theorem lk168 (P : Params) : (hd.heap_39 P).lookup 168 = some ⟨.type "tuple", none, .seq [.int 9 513, .int 8 514, .bool true].toArray 0, #[]⟩ := by k_is
theorem lk169 (P : Params) : (hd.heap_39 P).lookup 169 = some ⟨.type "tuple", none, .seq [.int 10 515, .int 8 516, .bool false].toArray 0, #[]⟩ := by k_is
theorem lk170 (P : Params) : (hd.heap_39 P).lookup 170 = some ⟨.type "tuple", none, .seq [.int 11 517, .int 4 518, .bool true].toArray 0, #[]⟩ := by k_is
def plainRows : List Value := [.ref 133, .ref 134, .ref 135, .ref 136, .ref 137, .ref 138, .ref 139, .ref 140, .ref 141]
def checkRows : List Value := [.ref 143, .ref 144, .ref 145, .ref 146, .ref 147, .ref 148, .ref 149, .ref 150, .ref 151, .ref 152, .ref 153, .ref 154, .ref 155, .ref 156, .ref 157, .ref 158]
def slotRows : List Value := [.ref 160, .ref 161, .ref 162, .ref 163, .ref 164, .ref 165, .ref 166, .ref 167, .ref 168, .ref 169, .ref 170]
def otherRows : List Value := [.int 88 520, .int 101 521, .int 102 522, .int 37 523, .int 214 524]
theorem look142 (P : Params) : (hd.heap_39 P).lookup 142 = some ⟨.type "tuple", none, .seq plainRows.toArray 0, #[]⟩ := by k_is
theorem look159 (P : Params) : (hd.heap_39 P).lookup 159 = some ⟨.type "tuple", none, .seq checkRows.toArray 0, #[]⟩ := by k_is
theorem look171 (P : Params) : (hd.heap_39 P).lookup 171 = some ⟨.type "tuple", none, .seq slotRows.toArray 0, #[]⟩ := by k_is
theorem look172 (P : Params) : (hd.heap_39 P).lookup 172 = some ⟨.type "tuple", none, .seq otherRows.toArray 0, #[]⟩ := by k_is
def Sz (size : Int) : Prop := size = 1 ∨ size = 2 ∨ size = 4 ∨ size = 8
def Bz (bits : Int) : Prop := bits = 8 ∨ bits = 16 ∨ bits = 32 ∨ bits = 64
inductive PRow (P : Params) : Value → Prop where
  | mk (ra ra2 : Addr) (op size g bits : Int) (to ts tg tb : Tok) (sg : Bool) (h1 : (hd.heap_39 P).lookup ra = some ⟨.type "tuple", none, .seq [.int op to, .int size ts, .bool sg, .int g tg].toArray 0, #[]⟩) (h2 : Sz size) (h3 : Bz bits) (h4 : bits = 8 * size) (h5 : g = tagOf op bits) (h6 : findBy Value.isInt es43 op = some (.ref ra2)) (h7 : (hd.heap_39 P).lookup ra2 = some ⟨.type "tuple", none, .seq [.int bits tb, .bool sg].toArray 0, #[]⟩) : PRow P (.ref ra)
inductive CRow (P : Params) : Value → Prop where
  | mk (ra ra2 : Addr) (op size bits : Int) (to ts tb : Tok) (sg un : Bool) (h1 : (hd.heap_39 P).lookup ra = some ⟨.type "tuple", none, .seq [.int op to, .int size ts, .bool sg, .bool un].toArray 0, #[]⟩) (h2 : Sz size) (h3 : Bz bits) (h4 : bits = 8 * size) (h5 : op ≠ 211) (h6 : findBy Value.isInt es43 op = none) (h7 : findBy Value.isInt es53 op = some (.ref ra2)) (h8 : (hd.heap_39 P).lookup ra2 = some ⟨.type "tuple", none, .seq [.int bits tb, .bool sg, .bool un].toArray 0, #[]⟩) : CRow P (.ref ra)
inductive SRow (P : Params) : Value → Prop where
  | mk (ra : Addr) (k size : Int) (to ts : Tok) (sg : Bool) (h1 : (hd.heap_39 P).lookup ra = some ⟨.type "tuple", none, .seq [.int k to, .int size ts, .bool sg].toArray 0, #[]⟩) (h2 : Sz size) (h3 : ∀ n, cutV k n = keptN (octs n 8) size sg) : SRow P (.ref ra)
inductive ORow : Value → Prop where
  | mk (op : Int) (to : Tok) (h1 : findBy Value.isInt es43 op = none) (h2 : findBy Value.isInt es53 op = none) : ORow (.int op to)
theorem sz1 : Sz 1 := Or.inl rfl
theorem sz2 : Sz 2 := Or.inr (Or.inl rfl)
theorem sz4 : Sz 4 := Or.inr (Or.inr (Or.inl rfl))
theorem sz8 : Sz 8 := Or.inr (Or.inr (Or.inr rfl))
theorem all_c {R : Value → Prop} {a : Value} {l : List Value} (h : R a) (k : ∀ v ∈ l, R v) : ∀ v ∈ a :: l, R v := fun v hv => (List.mem_cons.mp hv).elim (fun e => e ▸ h) (k v)
theorem all_n {R : Value → Prop} : ∀ v ∈ ([] : List Value), R v := fun _ h => absurd h List.not_mem_nil
theorem plain_ok (P : Params) : ∀ v ∈ plainRows, PRow P v := by
  unfold plainRows
  refine all_c (.mk 133 44 103 1 1 8 436 437 438 299 true (lk133 P) sz1 sb8 (by decide) (by decide) rfl (lk44 P)) ?_
  refine all_c (.mk 134 46 104 2 1 16 439 440 441 301 true (lk134 P) sz2 sb16 (by decide) (by decide) rfl (lk46 P)) ?_
  refine all_c (.mk 135 48 105 4 1 32 442 443 444 303 true (lk135 P) sz4 sb32 (by decide) (by decide) rfl (lk48 P)) ?_
  refine all_c (.mk 136 50 106 8 2 64 445 446 447 305 true (lk136 P) sz8 sb64 (by decide) (by decide) rfl (lk50 P)) ?_
  refine all_c (.mk 137 49 109 4 1 32 448 449 450 304 false (lk137 P) sz4 sb32 (by decide) (by decide) rfl (lk49 P)) ?_
  refine all_c (.mk 138 51 110 8 2 64 451 452 453 306 false (lk138 P) sz8 sb64 (by decide) (by decide) rfl (lk51 P)) ?_
  refine all_c (.mk 139 47 209 2 1 16 454 455 456 302 false (lk139 P) sz2 sb16 (by decide) (by decide) rfl (lk47 P)) ?_
  refine all_c (.mk 140 45 210 1 1 8 457 458 459 300 false (lk140 P) sz1 sb8 (by decide) (by decide) rfl (lk45 P)) ?_
  refine all_c (.mk 141 52 211 4 3 32 460 461 462 307 true (lk141 P) sz4 sb32 (by decide) (by decide) rfl (lk52 P)) ?_
  exact all_n
theorem check_ok (P : Params) : ∀ v ∈ checkRows, CRow P v := by
  unfold checkRows
  refine all_c (.mk 143 54 179 1 8 464 465 318 true false (lk143 P) sz1 sb8 (by decide) (by decide) rfl rfl (lk54 P)) ?_
  refine all_c (.mk 144 55 180 1 8 466 467 320 false false (lk144 P) sz1 sb8 (by decide) (by decide) rfl rfl (lk55 P)) ?_
  refine all_c (.mk 145 56 181 2 16 468 469 322 true false (lk145 P) sz2 sb16 (by decide) (by decide) rfl rfl (lk56 P)) ?_
  refine all_c (.mk 146 57 182 2 16 470 471 324 false false (lk146 P) sz2 sb16 (by decide) (by decide) rfl rfl (lk57 P)) ?_
  refine all_c (.mk 147 58 183 4 32 472 473 326 true false (lk147 P) sz4 sb32 (by decide) (by decide) rfl rfl (lk58 P)) ?_
  refine all_c (.mk 148 59 184 4 32 474 475 328 false false (lk148 P) sz4 sb32 (by decide) (by decide) rfl rfl (lk59 P)) ?_
  refine all_c (.mk 149 60 185 8 64 476 477 330 true false (lk149 P) sz8 sb64 (by decide) (by decide) rfl rfl (lk60 P)) ?_
  refine all_c (.mk 150 61 186 8 64 478 479 332 false false (lk150 P) sz8 sb64 (by decide) (by decide) rfl rfl (lk61 P)) ?_
  refine all_c (.mk 151 62 130 1 8 480 481 334 true true (lk151 P) sz1 sb8 (by decide) (by decide) rfl rfl (lk62 P)) ?_
  refine all_c (.mk 152 64 131 2 16 482 483 338 true true (lk152 P) sz2 sb16 (by decide) (by decide) rfl rfl (lk64 P)) ?_
  refine all_c (.mk 153 66 132 4 32 484 485 342 true true (lk153 P) sz4 sb32 (by decide) (by decide) rfl rfl (lk66 P)) ?_
  refine all_c (.mk 154 68 133 8 64 486 487 346 true true (lk154 P) sz8 sb64 (by decide) (by decide) rfl rfl (lk68 P)) ?_
  refine all_c (.mk 155 63 134 1 8 488 489 336 false true (lk155 P) sz1 sb8 (by decide) (by decide) rfl rfl (lk63 P)) ?_
  refine all_c (.mk 156 65 135 2 16 490 491 340 false true (lk156 P) sz2 sb16 (by decide) (by decide) rfl rfl (lk65 P)) ?_
  refine all_c (.mk 157 67 136 4 32 492 493 344 false true (lk157 P) sz4 sb32 (by decide) (by decide) rfl rfl (lk67 P)) ?_
  refine all_c (.mk 158 69 137 8 64 494 495 348 false true (lk158 P) sz8 sb64 (by decide) (by decide) rfl rfl (lk69 P)) ?_
  exact all_n
theorem slot_ok (P : Params) : ∀ v ∈ slotRows, SRow P v := by
  unfold slotRows
  refine all_c (.mk 160 1 1 497 498 false (lk160 P) sz1 (fun n => slot_law n 1 1 false (by decide))) ?_
  refine all_c (.mk 161 2 2 499 500 false (lk161 P) sz2 (fun n => slot_law n 2 2 false (by decide))) ?_
  refine all_c (.mk 162 3 1 501 502 true (lk162 P) sz1 (fun n => slot_law n 3 1 true (by decide))) ?_
  refine all_c (.mk 163 4 1 503 504 false (lk163 P) sz1 (fun n => slot_law n 4 1 false (by decide))) ?_
  refine all_c (.mk 164 5 2 505 506 true (lk164 P) sz2 (fun n => slot_law n 5 2 true (by decide))) ?_
  refine all_c (.mk 165 6 2 507 508 false (lk165 P) sz2 (fun n => slot_law n 6 2 false (by decide))) ?_
  refine all_c (.mk 166 7 4 509 510 true (lk166 P) sz4 (fun n => slot_law n 7 4 true (by decide))) ?_
  refine all_c (.mk 167 8 4 511 512 false (lk167 P) sz4 (fun n => slot_law n 8 4 false (by decide))) ?_
  refine all_c (.mk 168 9 8 513 514 true (lk168 P) sz8 (fun n => slot_law n 9 8 true (by decide))) ?_
  refine all_c (.mk 169 10 8 515 516 false (lk169 P) sz8 (fun n => slot_law n 10 8 false (by decide))) ?_
  refine all_c (.mk 170 11 4 517 518 true (lk170 P) sz4 (fun n => slot_law n 11 4 true (by decide))) ?_
  exact all_n
theorem other_ok : ∀ v ∈ otherRows, ORow v := by
  unfold otherRows
  refine all_c (.mk 88 520 rfl rfl) ?_
  refine all_c (.mk 101 521 rfl rfl) ?_
  refine all_c (.mk 102 522 rfl rfl) ?_
  refine all_c (.mk 37 523 rfl rfl) ?_
  refine all_c (.mk 214 524 rfl rfl) ?_
  exact all_n
end
section
def Tn (T : Int) : Prop := T = 1 ∨ T = 2 ∨ T = 3
theorem kc_of {size : Int} (h : Sz size) : Kc size := by
  rcases h with rfl | rfl | rfl | rfl <;> exact ⟨by decide, by decide⟩
theorem c_runPlain (w : World) (op bits size g : Int) (to tb : Tok) (sg : Bool) (ra : Addr) (h43 : findBy Value.isInt es43 op = some (.ref ra)) (hra : (hd.heap_39 w.params).lookup ra = some ⟨.type "tuple", none, .seq [.int bits tb, .bool sg].toArray 0, #[]⟩) (hb : Bz bits) (hs : Sz size) (hbs : bits = 8 * size) (hg : g = tagOf op bits) (va : Addr) (T n : Int) (tT tn : Tok) (news : Led) (hv : (va, tupO [.int T tT, .int n tn]) ∈ news) (hT : Tn T) (hn : inT n T) :
    Con w 132 5 [.int op to, .ref va] news (fun P => ∀ a b t0 t1 t2, P (.ref a) [(a, tupO [.ref b, .int 0 t0]), (b, tupO [.int g t1, .int (keptN (octs n (szT T)) size sg) t2])]) := by
  have C := c_runP w op bits to tb sg ra h43 hra hb va T n tT tn news hv hT
  rw [hbs, plain_law n T size sg hn hs, ← hbs, ← hg] at C
  exact C
theorem c_rangedY (w : World) (ra : Addr) (op size : Int) (to ts : Tok) (sg un : Bool) (hra : (hd.heap_39 w.params).lookup ra = some ⟨.type "tuple", none, .seq [.int op to, .int size ts, .bool sg, .bool un].toArray 0, #[]⟩) (hs : Sz size) (ha : Addr) (vs : List Value) (ns : List Int) (c : Nat) (news : Led) (hv : (ha, listOf vs.toArray c) ∈ news) (hi : IntsAre vs ns) (hl : Lb ns) (hok : okR (exR ns un) size sg) : Con w 243 4 [.ref ha, .ref ra] news (fun P =>
    ∀ a b t0 t1 t2, P (.ref a) [(a, tupO [.ref b, .int 0 t0]), (b, tupO [.int (tagR size) t1, .int (wrapR (exR ns un) size) t2])]) :=
  con_mono (c_ranged w ra op size to ts sg un hra (kc_of hs) ha vs ns c news hv hi hl) fun _ h => ⟨fun _ => h, fun k => absurd hok k⟩
theorem c_rangedN (w : World) (ra : Addr) (op size : Int) (to ts : Tok) (sg un : Bool) (hra : (hd.heap_39 w.params).lookup ra = some ⟨.type "tuple", none, .seq [.int op to, .int size ts, .bool sg, .bool un].toArray 0, #[]⟩) (hs : Sz size) (ha : Addr) (vs : List Value) (ns : List Int) (c : Nat) (news : Led) (hv : (ha, listOf vs.toArray c) ∈ news) (hi : IntsAre vs ns) (hl : Lb ns) (hok : ¬ okR (exR ns un) size sg) : Con w 243 4 [.ref ha, .ref ra] news (fun P => ∀ a t, P (.ref a) [(a, tupO [.none, .int 2 t])]) :=
  con_mono (c_ranged w ra op size to ts sg un hra (kc_of hs) ha vs ns c news hv hi hl) fun _ h => ⟨fun k => absurd k hok, fun _ => h⟩
theorem c_runCY (w : World) (op bits size : Int) (to tb : Tok) (sg un : Bool) (ra : Addr) (h43 : findBy Value.isInt es43 op = none) (h53 : findBy Value.isInt es53 op = some (.ref ra)) (hop : op ≠ 211) (hra : (hd.heap_39 w.params).lookup ra = some ⟨.type "tuple", none, .seq [.int bits tb, .bool sg, .bool un].toArray 0, #[]⟩) (hb : Bz bits) (hs : Sz size) (hbs : bits = 8 * size) (va : Addr) (T n : Int) (tT tn : Tok) (news : Led) (hv : (va, tupO [.int T tT, .int n tn]) ∈ news) (hT : Tn T) (hn : inT n T) (hok : okR (exR (octs n (szT T)) un) size sg) :
    Con w 132 5 [.int op to, .ref va] news (fun P => ∀ a b t0 t1 t2, P (.ref a) [(a, tupO [.ref b, .int 0 t0]), (b, tupO [.int (tagR size) t1, .int (wrapR (exR (octs n (szT T)) un) size) t2])]) := by
  have C := c_runC w op bits to tb sg un ra h43 h53 hop hra hb va T n tT tn news hv hT
  rw [hbs, tag_law op size hop hs, ← exact_law n T un hn, ov_wrap _ size sg hs hok] at C
  exact con_mono C fun _ h => ⟨fun _ => h, fun k => absurd ((in_ok _ size sg hs).mpr hok) k⟩
theorem c_runCN (w : World) (op bits size : Int) (to tb : Tok) (sg un : Bool) (ra : Addr) (h43 : findBy Value.isInt es43 op = none) (h53 : findBy Value.isInt es53 op = some (.ref ra)) (hop : op ≠ 211) (hra : (hd.heap_39 w.params).lookup ra = some ⟨.type "tuple", none, .seq [.int bits tb, .bool sg, .bool un].toArray 0, #[]⟩) (hb : Bz bits) (hs : Sz size) (hbs : bits = 8 * size) (va : Addr) (T n : Int) (tT tn : Tok) (news : Led) (hv : (va, tupO [.int T tT, .int n tn]) ∈ news) (hT : Tn T) (hn : inT n T) (hok : ¬ okR (exR (octs n (szT T)) un) size sg) :
    Con w 132 5 [.int op to, .ref va] news (fun P => ∀ a t, P (.ref a) [(a, tupO [.none, .int 2 t])]) := by
  have C := c_runC w op bits to tb sg un ra h43 h53 hop hra hb va T n tT tn news hv hT
  rw [hbs, ← exact_law n T un hn] at C
  exact con_mono C fun _ h => ⟨fun k => absurd ((in_ok _ size sg hs).mp k) hok, fun _ => h⟩
theorem c_cutS (w : World) (k n X : Int) (tk tn : Tok) (news : Led) (h : cutV k n = X) : Con w 42 3 [.int k tk, .int n tn] news (fun P => ∀ t, P (.int X t) []) := by
  subst h
  exact c_cut w k n tk tn news
section
variable {prog : Program} {w : World} {A : Around} {E : Value → Shared → Prop} {s : Shared} {env : Env} {h₀ : Heap} {x : PySem.Str} {body : List Stmt} {Q : Flow → Shared → Prop} {L : Addr}
theorem loop_tup2 {l : Addr} {vs : List Value} {m₀ : Mp} {news : Led} (J : Fam)
    (hh : A.handled = none) (hl : IsTup h₀ l vs.toArray) (F : Fr h₀ env.locals s.heap m₀) (N : News h₀ env.locals s.heap news) (hj : ∀ P, J P → P m₀)
    (turn : ∀ v ∈ vs, J fun m₁ => ∀ h tk news₁, (∀ p ∈ news, p ∈ news₁) → Fr h₀ env.locals h (fun y => if y = x then some v else m₁ y) → News h₀ env.locals h news₁ →
      wpAny (model prog w) A (execs body env) (TPost h₀ env.locals J news₁ { s with heap := h, toks := tk } Q) E { s with heap := h, toks := tk })
    (done : J fun m₁ => ∀ h tk, Fr h₀ env.locals h m₁ → News h₀ env.locals h news → Q .next { s with heap := h, toks := tk }) :
    wpAny (model prog w) A (pyIter (.ref l)) (fun it s₂ => LoopAtV prog w A h₀ env x body Q E it s₂) E s := by
  have hls : s.heap.IsTuple l vs.toArray := Heap.IsTuple.at hl fun o e => F.keep l o e
  obtain ⟨ol, hol, _⟩ := id hl
  have hlt : l < h₀.objs.size := Heap.lt_size hol
  have hne : l ≠ s.heap.objs.size := Nat.ne_of_lt (Nat.lt_trans (Nat.lt_of_lt_of_le hlt F.above) F.ns.lt)
  refine wpAny_pyIter_tuple hls ?_
  have W := Walks.tuple (prog := prog) (w := w) hh s.heap.objs.size l hne vs.toArray
  let J' : Nat → Mp → Led → Prop := fun _ m₁ news₁ => news₁ = news ∧ ∀ P, J P → P m₁
  refine ⟨_, _, _, vs.toArray.size, _, _, m₀, news, J', rfl, W, ?_, ?_, ?_, ⟨⟨_, Heap.get?_push_size _ rfl, rfl, rfl⟩, hls.at fun o e => Heap.get?_push_of_some _ e⟩, F.push _, (fun p hp => ⟨Heap.get?_push_of_some _ (N p hp).1, (N p hp).2⟩), ⟨rfl, hj⟩, ?_, ?_⟩
  · intro hm
    rcases List.mem_cons.mp hm with e | hm
    · exact absurd F.ns.lt (e ▸ Nat.lt_irrefl _)
    · exact absurd (Nat.lt_of_lt_of_le hlt F.above) ((List.mem_singleton.mp hm) ▸ Nat.lt_irrefl _)
  · intro b hb
    rw [List.mem_singleton.mp hb]
    exact next_is_new F
  · intro p hp hI
    exact absurd (Heap.lt_size (N p hp).1) ((List.mem_singleton.mp hI) ▸ Nat.lt_irrefl _)
  · rintro i v m₁ news₁ s₁ own ⟨hh', tk', rfl⟩ hin hP ⟨rfl, hJ⟩ hoff _ _ _ _ F₁ N₁
    have hv : v ∈ vs := by
      have hP' : vs[i]? = some v := by simpa using hP
      exact List.mem_of_getElem? hP'
    refine wpAny_mono (hJ _ (turn v hv) hh' tk' (own ++ news₁) (fun p hp => List.mem_append_right _ hp) F₁ N₁) (fun f s₂ p => ?_) fun _ _ e => e
    have fin : (∃ h' tk m' news', s₂ = { s with heap := h', toks := tk } ∧ Fr h₀ env.locals h' m' ∧ News h₀ env.locals h' news' ∧ (∀ p ∈ own ++ news₁, p ∈ news') ∧ ∀ P, J P → P m') → LoopStepU h₀ env.locals [s.heap.objs.size] own (J' (i + 1)) { s with heap := hh', toks := tk' } .next s₂ := by
      rintro ⟨h', tk, m', news', e, F', N', hn, hm⟩
      exact ⟨rfl, h', tk, m', news₁, e, F', fun p hp => N' p (hn p hp), hoff, rfl, hm⟩
    cases f with
    | ret v => exact .ret p
    | brk => exact .brk p
    | next => exact .next (fin p)
    | cont => exact .cont (fin p)
  · rintro h' tk m' news' F' N' _ ⟨rfl, hJ⟩
    exact hJ _ done h' tk F' N'
theorem tpost_next {J : Fam} {need news' : Led} {s₁ : Shared} {h' : Heap} {tk : Nat} {m' : Mp} (F : Fr h₀ L h' m') (N : News h₀ L h' news') (hn : ∀ p ∈ need, p ∈ news') (hj : ∀ P, J P → P m') : TPost h₀ L J need s₁ Q .next { s₁ with heap := h', toks := tk } :=
  ⟨h', tk, m', news', rfl, F, N, hn, hj⟩
def J3 (a b c : PySem.Str) (m₀ : Mp) : Fam := fun P => ∀ r v g : Option Value, P (fun z => if z = a then r else if z = b then v else if z = c then g else m₀ z)
theorem j3_of {a b c : PySem.Str} {m₀ m' : Mp} (h : ∀ z, z ≠ a → z ≠ b → z ≠ c → m' z = m₀ z) : ∀ P, J3 a b c m₀ P → P m' := fun P hP => by
  have e : m' = fun z => if z = a then m' a else if z = b then m' b else if z = c then m' c else m₀ z := by
    funext z
    by_cases h1 : z = a
    · rw [if_pos h1, h1]
    · rw [if_neg h1]
      by_cases h2 : z = b
      · rw [if_pos h2, h2]
      · rw [if_neg h2]
        by_cases h3 : z = c
        · rw [if_pos h3, h3]
        · rw [if_neg h3, h z h1 h2 h3]
  rw [e]
  exact hP _ _ _
def JH (n T : Int) (m₀ : Mp) (news : Led) : (Mp → Led → Prop) → Prop := fun P => ∀ (ha : Addr) (vs : List Value) (c : Nat), IntsAre vs (octs n (szT T)) → P (fun z => if z = Str.ofString "have" then some (.ref ha) else m₀ z) ((ha, listOf vs.toArray c) :: news)
theorem join_have {st : Stmt} {m₀ : Mp} {news : Led} {n T : Int} (uhn : inT n T) (F : Fr h₀ L s.heap m₀) (N : News h₀ L s.heap news)
    (h1 : wpAny (model prog w) A (exec st env) (JEnd h₀ L (JH n T m₀ news) s) E s)
    (h2 : ∀ ha vs c h tk, IntsAre vs (octs n (szT T)) → Fr h₀ L h (fun z => if z = Str.ofString "have" then some (.ref ha) else m₀ z) → News h₀ L h ((ha, listOf vs.toArray c) :: news) → Q .next { s with heap := h, toks := tk }) : wpAny (model prog w) A (exec st env) Q E s :=
  join _ h1 fun ha vs c hi h tk F N => h2 ha vs c h tk hi F N
theorem jend_h2 {h' : Heap} {m₀ : Mp} {tk : Nat} {news : Led} {n T : Int} {ha : Addr} {vs : List Value} {c : Nat} (hi : IntsAre vs (octs n 8)) (hT : T = 2) (N : News h₀ L h' ((ha, listOf vs.toArray c) :: news)) (F : Fr h₀ L h' (fun z => if z = Str.ofString "have" then some (.ref ha) else m₀ z)) :
    JEnd h₀ L (JH n T m₀ news) s .next { s with heap := h', toks := tk } :=
  ⟨rfl, h', tk, _, _, rfl, F, N, fun _ h => h ha vs c (by rw [szT, if_pos hT]; exact hi)⟩
theorem jend_h4 {h' : Heap} {m₀ : Mp} {tk : Nat} {news : Led} {n T : Int} {ha : Addr} {vs : List Value} {c : Nat} (hi : IntsAre vs (octs n 4)) (hT : T ≠ 2) (N : News h₀ L h' ((ha, listOf vs.toArray c) :: news)) (F : Fr h₀ L h' m₀) (hm : m₀ (Str.ofString "have") = some (.ref ha)) :
    JEnd h₀ L (JH n T m₀ ((ha, listOf vs.toArray c) :: news)) s .next { s with heap := h', toks := tk } := by
  refine ⟨rfl, h', tk, m₀, _, rfl, F, news_dup N (.head _), fun P h => ?_⟩
  have e : m₀ = fun z => if z = Str.ofString "have" then some (.ref ha) else m₀ z := by
    funext z
    by_cases h1 : z = Str.ofString "have"
    · rw [if_pos h1, h1, hm]
    · rw [if_neg h1]
  have k := h ha vs c (by rw [szT, if_neg hT]; exact hi)
  rw [← e] at k
  exact k
end
theorem c_oct4 (w : World) (n : Int) (tn tc : Tok) (news : Led) : Con w 180 1 [.int n tn, .int 4 tc] news (fun P => ∀ a vs c, IntsAre vs (octs n 4) → P (.ref a) [(a, listOf vs.toArray c)]) := c_octG w n 4 tn tc news ⟨by decide, by decide⟩
theorem c_oct8 (w : World) (n : Int) (tn tc : Tok) (news : Led) : Con w 180 1 [.int n tn, .int 8 tc] news (fun P => ∀ a vs c, IntsAre vs (octs n 8) → P (.ref a) [(a, listOf vs.toArray c)]) := c_octG w n 8 tn tc news ⟨by decide, by decide⟩
theorem lb_szT (n T : Int) : Lb (octs n (szT T)) := by
  rw [Lb, octs_len]
  unfold szT
  split <;> exact ⟨by decide, by decide⟩
theorem lb_8 (n : Int) : Lb (octs n 8) := by
  rw [Lb, octs_len]
  exact ⟨by decide, by decide⟩
section
variable {prog : Program} {w : World} {A : Around} {E : Value → Shared → Prop} {s : Shared} {env : Env} {h₀ : Heap} {x : PySem.Str} {body : List Stmt} {Q : Flow → Shared → Prop} {m₀ : Mp} {news : Led}
theorem loop_plain (hh : A.handled = none) (X : (hd.heap_39 w.params).In h₀) (F : Fr h₀ env.locals s.heap m₀) (N : News h₀ env.locals s.heap news)
    (turn : ∀ u, PRow w.params u → ∀ (r v g : Option Value) h tk news₁, (∀ p ∈ news, p ∈ news₁) → Fr h₀ env.locals h (fun y => if y = x then some u else if y = Str.ofString "row" then r else if y = Str.ofString "want" then v else if y = Str.ofString "got" then g else m₀ y) → News h₀ env.locals h news₁ →
      wpAny (model prog w) A (execs body env) (TPost h₀ env.locals (J3 (Str.ofString "row") (Str.ofString "want") (Str.ofString "got") m₀) news₁ { s with heap := h, toks := tk } Q) E { s with heap := h, toks := tk })
    (done : ∀ (r v g : Option Value) h tk, Fr h₀ env.locals h (fun y => if y = Str.ofString "row" then r else if y = Str.ofString "want" then v else if y = Str.ofString "got" then g else m₀ y) → News h₀ env.locals h news → Q .next { s with heap := h, toks := tk }) :
    wpAny (model prog w) A (pyIter (.ref 142)) (fun it s₂ => LoopAtV prog w A h₀ env x body Q E it s₂) E s :=
  loop_tup2 (J3 (Str.ofString "row") (Str.ofString "want") (Str.ofString "got") m₀) hh ⟨_, X _ _ (look142 _), rfl, _, rfl⟩ F N (j3_of fun _ _ _ _ => rfl) (fun u hu => turn u (plain_ok _ u hu)) done
theorem loop_check (hh : A.handled = none) (X : (hd.heap_39 w.params).In h₀) (F : Fr h₀ env.locals s.heap m₀) (N : News h₀ env.locals s.heap news)
    (turn : ∀ u, CRow w.params u → ∀ (r v g : Option Value) h tk news₁, (∀ p ∈ news, p ∈ news₁) → Fr h₀ env.locals h (fun y => if y = x then some u else if y = Str.ofString "row" then r else if y = Str.ofString "want" then v else if y = Str.ofString "got" then g else m₀ y) → News h₀ env.locals h news₁ →
      wpAny (model prog w) A (execs body env) (TPost h₀ env.locals (J3 (Str.ofString "row") (Str.ofString "want") (Str.ofString "got") m₀) news₁ { s with heap := h, toks := tk } Q) E { s with heap := h, toks := tk })
    (done : ∀ (r v g : Option Value) h tk, Fr h₀ env.locals h (fun y => if y = Str.ofString "row" then r else if y = Str.ofString "want" then v else if y = Str.ofString "got" then g else m₀ y) → News h₀ env.locals h news → Q .next { s with heap := h, toks := tk }) :
    wpAny (model prog w) A (pyIter (.ref 159)) (fun it s₂ => LoopAtV prog w A h₀ env x body Q E it s₂) E s :=
  loop_tup2 (J3 (Str.ofString "row") (Str.ofString "want") (Str.ofString "got") m₀) hh ⟨_, X _ _ (look159 _), rfl, _, rfl⟩ F N (j3_of fun _ _ _ _ => rfl) (fun u hu => turn u (check_ok _ u hu)) done
theorem loop_slot (hh : A.handled = none) (X : (hd.heap_39 w.params).In h₀) (F : Fr h₀ env.locals s.heap m₀) (N : News h₀ env.locals s.heap news)
    (turn : ∀ u, SRow w.params u → ∀ (r v g : Option Value) h tk news₁, (∀ p ∈ news, p ∈ news₁) → Fr h₀ env.locals h (fun y => if y = x then some u else if y = Str.ofString "row" then r else if y = Str.ofString "want" then v else if y = Str.ofString "got" then g else m₀ y) → News h₀ env.locals h news₁ →
      wpAny (model prog w) A (execs body env) (TPost h₀ env.locals (J3 (Str.ofString "row") (Str.ofString "want") (Str.ofString "got") m₀) news₁ { s with heap := h, toks := tk } Q) E { s with heap := h, toks := tk })
    (done : ∀ (r v g : Option Value) h tk, Fr h₀ env.locals h (fun y => if y = Str.ofString "row" then r else if y = Str.ofString "want" then v else if y = Str.ofString "got" then g else m₀ y) → News h₀ env.locals h news → Q .next { s with heap := h, toks := tk }) :
    wpAny (model prog w) A (pyIter (.ref 171)) (fun it s₂ => LoopAtV prog w A h₀ env x body Q E it s₂) E s :=
  loop_tup2 (J3 (Str.ofString "row") (Str.ofString "want") (Str.ofString "got") m₀) hh ⟨_, X _ _ (look171 _), rfl, _, rfl⟩ F N (j3_of fun _ _ _ _ => rfl) (fun u hu => turn u (slot_ok _ u hu)) done
theorem loop_other (hh : A.handled = none) (X : (hd.heap_39 w.params).In h₀) (F : Fr h₀ env.locals s.heap m₀) (N : News h₀ env.locals s.heap news)
    (turn : ∀ u, ORow u → ∀ (r v g : Option Value) h tk news₁, (∀ p ∈ news, p ∈ news₁) → Fr h₀ env.locals h (fun y => if y = x then some u else if y = Str.ofString "op" then r else if y = Str.ofString "want" then v else if y = Str.ofString "got" then g else m₀ y) → News h₀ env.locals h news₁ →
      wpAny (model prog w) A (execs body env) (TPost h₀ env.locals (J3 (Str.ofString "op") (Str.ofString "want") (Str.ofString "got") m₀) news₁ { s with heap := h, toks := tk } Q) E { s with heap := h, toks := tk })
    (done : ∀ (r v g : Option Value) h tk, Fr h₀ env.locals h (fun y => if y = Str.ofString "op" then r else if y = Str.ofString "want" then v else if y = Str.ofString "got" then g else m₀ y) → News h₀ env.locals h news → Q .next { s with heap := h, toks := tk }) :
    wpAny (model prog w) A (pyIter (.ref 172)) (fun it s₂ => LoopAtV prog w A h₀ env x body Q E it s₂) E s :=
  loop_tup2 (J3 (Str.ofString "op") (Str.ofString "want") (Str.ofString "got") m₀) hh ⟨_, X _ _ (look172 _), rfl, _, rfl⟩ F N (j3_of fun _ _ _ _ => rfl) (fun u hu => turn u (other_ok u hu)) done
theorem eqv_int (x : Int) : PyData.eqv (.int x) (.int x) = true := by simp [PyData.eqv]
theorem ne_val {L a a' b b' : Addr} {x g v : Int} {t0 t0' t1 t1' t2 t2' : Tok} {Q : Value → Shared → Prop} (N : News h₀ L s.heap news) (ha : (a, tupO [.ref b, .int x t0]) ∈ news) (hb : (b, tupO [.int g t1, .int v t2]) ∈ news) (ha' : (a', tupO [.ref b', .int x t0']) ∈ news) (hb' : (b', tupO [.int g t1', .int v t2']) ∈ news) (hu : A.units + 64 < cLine) (h : Q (.bool false) s) :
    wpAny (model prog w) A (compareOp .NotEq (.ref a) (.ref a')) Q E s := by
  refine ne_dataH (reads_tuple_at (News.get N ha) rfl rfl (.cons (reads_tuple_at (News.get N hb) rfl rfl (.cons (.int g t1) (.cons (.int v t2) .nil))) (.cons (.int x t0) .nil))) (reads_tuple_at (News.get N ha') rfl rfl (.cons (reads_tuple_at (News.get N hb') rfl rfl (.cons (.int g t1') (.cons (.int v t2') .nil))) (.cons (.int x t0') .nil))) rfl rfl hu ?_
  simp only [PyData.eqv, PyData.eqvAll, beq_self_eq_true, decide_true, Bool.and_true, Bool.not_true]
  exact h
theorem ne_non {L a a' : Addr} {x : Int} {t0 t0' : Tok} {Q : Value → Shared → Prop} (N : News h₀ L s.heap news) (ha : (a, tupO [.none, .int x t0]) ∈ news) (ha' : (a', tupO [.none, .int x t0']) ∈ news) (hu : A.units + 64 < cLine) (h : Q (.bool false) s) :
    wpAny (model prog w) A (compareOp .NotEq (.ref a) (.ref a')) Q E s := by
  refine ne_dataH (reads_tuple_at (News.get N ha) rfl rfl (.cons .none (.cons (.int x t0) .nil))) (reads_tuple_at (News.get N ha') rfl rfl (.cons .none (.cons (.int x t0') .nil))) rfl rfl hu ?_
  simp only [PyData.eqv, PyData.eqvAll, beq_self_eq_true, decide_true, Bool.and_true, Bool.not_true]
  exact h
theorem ne_selfI {x : Int} {t u : Tok} {Q : Value → Shared → Prop} (h : Q (.bool false) s) : wpAny (model prog w) A (compareOp .NotEq (.int x t) (.int x u)) Q E s :=
  ne_int (by simpa using h)
end
end
section
theorem words27 : True := by
  k_with_none
  (k_with "eval Call" => k_dflt (refine Call_ ?_))
  (k_with "compareOp NotEq int int" => k_dflt (refine ne_selfI ?_))
  (k_with "compareOp NotEq ref ref" => (k_here; k_dflt (first | (refine' ne_val ?N ?a ?b ?c ?d ?u ?_; (case N => k_asm); (case a => k_mem); (case b => k_mem); (case c => k_mem); (case d => k_mem); (case u => units_room)) | (refine' ne_non ?N ?a ?c ?u ?_; (case N => k_asm); (case a => k_mem); (case c => k_mem); (case u => units_room)))))
  (k_with "subscriptTail Name Constant ref int" => (k_dflt (refine' item_K ?F ?X ?l ?z ?x ?_; (case F => k_asm); (case X => k_asm); (case l => assumption); (case z => decide); (case x => rfl))))
  (k_with "call ref" => (k_dflt (cell_ask (c_oct4 _ _ _ _ _)); (try dsimp only [List.nil_append, List.cons_append]); intros; (try k_fold)))
  (k_with "call ref" => (k_dflt (cell_ask (c_oct8 _ _ _ _ _)); (try dsimp only [List.nil_append, List.cons_append]); intros; (try k_fold)))
  (k_with "call ref" => (k_dflt (cell_ask (c_kept _ _ _ _ _ _ _ _ (by assumption) (by assumption) _ _ _ _ _ (by k_mem) (by assumption) (by first | exact lb_szT _ _ | exact lb_8 _))); (try dsimp only [List.nil_append, List.cons_append]); intros; (try k_fold)))
  (k_with "call ref" => (k_dflt (cell_ask (c_cutS _ _ _ _ _ _ _ ((by assumption : ∀ n, cutV _ n = keptN (octs n 8) _ _) _))); (try dsimp only [List.nil_append, List.cons_append]); intros; (try k_fold)))
  (k_with "call ref" => (k_dflt (cell_ask (c_wholeN _ _ _ _ _ (by k_mem))); (try dsimp only [List.nil_append, List.cons_append]); intros; (try k_fold)))
  (k_with "call ref" => (k_dflt (cell_ask (c_wholeV _ _ _ _ _ _ _ _ _ _ (by k_mem) (by k_mem))); (try dsimp only [List.nil_append, List.cons_append]); intros; (try k_fold)))
  (k_with "call ref" => (k_dflt (cell_ask (c_valueN _ _ _ _ _ _ (by assumption))); (try dsimp only [List.nil_append, List.cons_append]); intros; (try k_fold)))
  (k_with "call ref" => (k_dflt (cell_ask (c_runO _ _ _ (by assumption) (by assumption) _ _ _ _ _ _ (by k_mem) (by assumption))); (try dsimp only [List.nil_append, List.cons_append]); intros; (try k_fold)))
  (k_with "call ref" => (k_dflt (cell_ask (c_runPlain _ _ _ _ _ _ _ _ _ (by assumption) (by assumption) (by assumption) (by assumption) (by assumption) (by assumption) _ _ _ _ _ _ (by k_mem) (by assumption) (by assumption))); (try dsimp only [List.nil_append, List.cons_append]); intros; (try k_fold)))
  (k_with "call ref" => (k_dflt (cell_ask (c_rangedY _ _ _ _ _ _ _ _ (by assumption) (by assumption) _ _ _ _ _ (by k_mem) (by assumption) (by first | exact lb_szT _ _ | exact lb_8 _) (by assumption))); (try dsimp only [List.nil_append, List.cons_append]); intros; (try k_fold)))
  (k_with "call ref" => (k_dflt (cell_ask (c_runCY _ _ _ _ _ _ _ _ _ (by assumption) (by assumption) (by assumption) (by assumption) (by assumption) (by assumption) (by assumption) _ _ _ _ _ _ (by k_mem) (by assumption) (by assumption) (by assumption))); (try dsimp only [List.nil_append, List.cons_append]); intros; (try k_fold)))
  (k_with "call ref" => (k_dflt (cell_ask (c_rangedN _ _ _ _ _ _ _ _ (by assumption) (by assumption) _ _ _ _ _ (by k_mem) (by assumption) (by first | exact lb_szT _ _ | exact lb_8 _) (by assumption))); (try dsimp only [List.nil_append, List.cons_append]); intros; (try k_fold)))
  (k_with "call ref" => (k_dflt (cell_ask (c_runCN _ _ _ _ _ _ _ _ _ (by assumption) (by assumption) (by assumption) (by assumption) (by assumption) (by assumption) (by assumption) _ _ _ _ _ _ (by k_mem) (by assumption) (by assumption) (by assumption))); (try dsimp only [List.nil_append, List.cons_append]); intros; (try k_fold)))
  (k_with "exec If" => ((with_reducible show wpAny _ _ (exec (Stmt.If (PySem.Expr.Compare (PySem.Expr.Name "tag" _) [PySem.CmpOp.Eq] _ _) _ _ _) _) _ _ _); (fail_if_success (with_reducible show wpAny _ _ _ (JEnd _ _ _ _) _ _)); k_dflt (refine' join_have (by assumption) ?F ?N ?_ ?_; (case F => k_asm); (case N => k_asm)); (rotate_left 1); (focus (intros; (try k_fold))); (rotate_right 1)))
  (k_with "pyIter ref" => ((with_reducible show wpAny _ _ (pyIter (Value.ref _)) (fun it s₂ => LoopAtV _ _ _ _ _ _ _ _ _ it s₂) _ _); k_dflt (refine' loop_plain ?hh ?X ?F ?N ?_ ?_; (case hh => exact rfl); (case X => k_asm); (case F => k_asm); (case N => k_asm)); (rotate_left 1); (focus (intros; (try dsimp only); (try k_fold))); (rotate_right 1); (focus (intro u hu r v g h tk news1 hs F N; obtain ⟨ra, ra2, op, size, g', bits, to, ts, tg, tb, sg, h1, h2, h3, h4, h5, h6, h7⟩ := hu; (have hm1 := hs _ (List.Mem.head _)); (try have hm2 := hs _ (List.Mem.tail _ (List.Mem.head _))); (try have hm3 := hs _ (List.Mem.tail _ (List.Mem.tail _ (List.Mem.head _)))); (try dsimp only); (try k_fold); (have hkc := kc_of h2)))))
  (k_with "pyIter ref" => ((with_reducible show wpAny _ _ (pyIter (Value.ref _)) (fun it s₂ => LoopAtV _ _ _ _ _ _ _ _ _ it s₂) _ _); k_dflt (refine' loop_check ?hh ?X ?F ?N ?_ ?_; (case hh => exact rfl); (case X => k_asm); (case F => k_asm); (case N => k_asm)); (rotate_left 1); (focus (intros; (try dsimp only); (try k_fold))); (rotate_right 1); (focus (intro u hu r v g h tk news1 hs F N; obtain ⟨ra, ra2, op, size, bits, to, ts, tb, sg, un, h1, h2, h3, h4, h5, h6, h7, h8⟩ := hu; (have hm1 := hs _ (List.Mem.head _)); (try have hm2 := hs _ (List.Mem.tail _ (List.Mem.head _))); (try have hm3 := hs _ (List.Mem.tail _ (List.Mem.tail _ (List.Mem.head _)))); (try dsimp only); (try k_fold); (have hkc := kc_of h2); (rcases Classical.em (okR (exR (octs n (szT Tg)) un) size sg) with h9 | h9)))))
  (k_with "pyIter ref" => ((with_reducible show wpAny _ _ (pyIter (Value.ref _)) (fun it s₂ => LoopAtV _ _ _ _ _ _ _ _ _ it s₂) _ _); k_dflt (refine' loop_slot ?hh ?X ?F ?N ?_ ?_; (case hh => exact rfl); (case X => k_asm); (case F => k_asm); (case N => k_asm)); (rotate_left 1); (focus (intros; (try dsimp only); (try k_fold))); (rotate_right 1); (focus (intro u hu r v g h tk news1 hs F N; obtain ⟨ra, k, size, to, ts, sg, h1, h2, h3⟩ := hu; (have hm1 := hs _ (List.Mem.head _)); (try have hm2 := hs _ (List.Mem.tail _ (List.Mem.head _))); (try have hm3 := hs _ (List.Mem.tail _ (List.Mem.tail _ (List.Mem.head _)))); (try dsimp only); (try k_fold); (have hkc := kc_of h2)))))
  (k_with "pyIter ref" => ((with_reducible show wpAny _ _ (pyIter (Value.ref _)) (fun it s₂ => LoopAtV _ _ _ _ _ _ _ _ _ it s₂) _ _); k_dflt (refine' loop_other ?hh ?X ?F ?N ?_ ?_; (case hh => exact rfl); (case X => k_asm); (case F => k_asm); (case N => k_asm)); (rotate_left 1); (focus (intros; (try dsimp only); (try k_fold))); (rotate_right 1); (focus (intro u hu r v g h tk news1 hs F N; obtain ⟨op, to, h1, h2⟩ := hu; (have hm1 := hs _ (List.Mem.head _)); (try have hm2 := hs _ (List.Mem.tail _ (List.Mem.head _))); (try have hm3 := hs _ (List.Mem.tail _ (List.Mem.tail _ (List.Mem.head _)))); (try dsimp only); (try k_fold)))))
  trivial
theorem c_oneN (w : World) (Tg n : Int) (tT tn : Tok) (news : Led) (hT : Tn Tg) (hn : inT n Tg) (hT3 : Tg ≤ 3) : Con w 250 10 [.int Tg tT, .int n tn] news (fun P => P (.bool true) []) := by
  intro mean mg mb dp un gd cn cs a ccd cl outer A₀ base h₀ L m s Q E B F X N T hk hd hu hret
  ktn_step
  all_goals first
    | (refine' tpost_next ?F ?N ?M ?J; (case F => assumption); (case N => assumption); (case M => intro p hp; (repeat (first | exact hp | refine List.Mem.tail _ ?_))); (case J => refine j3_of ?_; intro z h1 h2 h3; simp only [if_neg h1, if_neg h2, if_neg h3]))
    | exact jend_h2 (by assumption) (by assumption) (by assumption) (by assumption)
    | exact jend_h4 (by assumption) (by assumption) (by assumption) (by assumption) rfl
    | exact hret _ _ (by k_asm) (fun p hp => (by assumption : News _ _ _ _) p (by (repeat (first | exact hp | refine List.Mem.tail _ ?_)))) ord0
end
section
theorem words28 : True := by
  k_with_none
  (k_with "eval Call" => k_dflt (refine Call_ ?_))
  (k_with "compareOp NotEq int int" => k_dflt (refine ne_selfI ?_))
  (k_with "compareOp NotEq ref ref" => (k_here; k_dflt (first | (refine' ne_val ?N ?a ?b ?c ?d ?u ?_; (case N => k_asm); (case a => k_mem); (case b => k_mem); (case c => k_mem); (case d => k_mem); (case u => units_room)) | (refine' ne_non ?N ?a ?c ?u ?_; (case N => k_asm); (case a => k_mem); (case c => k_mem); (case u => units_room)))))
  (k_with "subscriptTail Name Constant ref int" => (k_dflt (refine' item_K ?F ?X ?l ?z ?x ?_; (case F => k_asm); (case X => k_asm); (case l => assumption); (case z => decide); (case x => rfl))))
  (k_with "call ref" => (k_dflt (cell_ask (c_oct4 _ _ _ _ _)); (try dsimp only [List.nil_append, List.cons_append]); intros; (try k_fold)))
  (k_with "call ref" => (k_dflt (cell_ask (c_oct8 _ _ _ _ _)); (try dsimp only [List.nil_append, List.cons_append]); intros; (try k_fold)))
  (k_with "call ref" => (k_dflt (cell_ask (c_kept _ _ _ _ _ _ _ _ (by assumption) (by assumption) _ _ _ _ _ (by k_mem) (by assumption) (by first | exact lb_szT _ _ | exact lb_8 _))); (try dsimp only [List.nil_append, List.cons_append]); intros; (try k_fold)))
  (k_with "call ref" => (k_dflt (cell_ask (c_cutS _ _ _ _ _ _ _ ((by assumption : ∀ n, cutV _ n = keptN (octs n 8) _ _) _))); (try dsimp only [List.nil_append, List.cons_append]); intros; (try k_fold)))
  (k_with "call ref" => (k_dflt (cell_ask (c_wholeN _ _ _ _ _ (by k_mem))); (try dsimp only [List.nil_append, List.cons_append]); intros; (try k_fold)))
  (k_with "call ref" => (k_dflt (cell_ask (c_wholeV _ _ _ _ _ _ _ _ _ _ (by k_mem) (by k_mem))); (try dsimp only [List.nil_append, List.cons_append]); intros; (try k_fold)))
  (k_with "call ref" => (k_dflt (cell_ask (c_valX _ _ _ _ _ _ (by assumption))); (try dsimp only [List.nil_append, List.cons_append]); intros; (try k_fold)))
  (k_with "call ref" => (k_dflt (cell_ask (c_runT _ _ _ _ _ _ _ _ (by k_mem) (by assumption))); (try dsimp only [List.nil_append, List.cons_append]); intros; (try k_fold)))
  (k_with "pyIter ref" => ((with_reducible show wpAny _ _ (pyIter (Value.ref _)) (fun it s₂ => LoopAtV _ _ _ _ _ _ _ _ _ it s₂) _ _); k_dflt (refine' loop_plain ?hh ?X ?F ?N ?_ ?_; (case hh => exact rfl); (case X => k_asm); (case F => k_asm); (case N => k_asm)); (rotate_left 1); (focus (intros; (try dsimp only); (try k_fold))); (rotate_right 1); (focus (intro u hu r v g h tk news1 hs F N; obtain ⟨ra, ra2, op, size, g', bits, to, ts, tg, tb, sg, h1, h2, h3, h4, h5, h6, h7⟩ := hu; (have hm1 := hs _ (List.Mem.head _)); (try have hm2 := hs _ (List.Mem.tail _ (List.Mem.head _))); (try have hm3 := hs _ (List.Mem.tail _ (List.Mem.tail _ (List.Mem.head _)))); (try dsimp only); (try k_fold)))))
  (k_with "pyIter ref" => ((with_reducible show wpAny _ _ (pyIter (Value.ref _)) (fun it s₂ => LoopAtV _ _ _ _ _ _ _ _ _ it s₂) _ _); k_dflt (refine' loop_check ?hh ?X ?F ?N ?_ ?_; (case hh => exact rfl); (case X => k_asm); (case F => k_asm); (case N => k_asm)); (rotate_left 1); (focus (intros; (try dsimp only); (try k_fold))); (rotate_right 1); (focus (intro u hu r v g h tk news1 hs F N; obtain ⟨ra, ra2, op, size, bits, to, ts, tb, sg, un, h1, h2, h3, h4, h5, h6, h7, h8⟩ := hu; (have hm1 := hs _ (List.Mem.head _)); (try have hm2 := hs _ (List.Mem.tail _ (List.Mem.head _))); (try have hm3 := hs _ (List.Mem.tail _ (List.Mem.tail _ (List.Mem.head _)))); (try dsimp only); (try k_fold)))))
  (k_with "pyIter ref" => ((with_reducible show wpAny _ _ (pyIter (Value.ref _)) (fun it s₂ => LoopAtV _ _ _ _ _ _ _ _ _ it s₂) _ _); k_dflt (refine' loop_slot ?hh ?X ?F ?N ?_ ?_; (case hh => exact rfl); (case X => k_asm); (case F => k_asm); (case N => k_asm)); (rotate_left 1); (focus (intros; (try dsimp only); (try k_fold))); (rotate_right 1); (focus (intro u hu r v g h tk news1 hs F N; obtain ⟨ra, k, size, to, ts, sg, h1, h2, h3⟩ := hu; (have hm1 := hs _ (List.Mem.head _)); (try have hm2 := hs _ (List.Mem.tail _ (List.Mem.head _))); (try have hm3 := hs _ (List.Mem.tail _ (List.Mem.tail _ (List.Mem.head _)))); (try dsimp only); (try k_fold); (have hkc := kc_of h2)))))
  (k_with "pyIter ref" => ((with_reducible show wpAny _ _ (pyIter (Value.ref _)) (fun it s₂ => LoopAtV _ _ _ _ _ _ _ _ _ it s₂) _ _); k_dflt (refine' loop_other ?hh ?X ?F ?N ?_ ?_; (case hh => exact rfl); (case X => k_asm); (case F => k_asm); (case N => k_asm)); (rotate_left 1); (focus (intros; (try dsimp only); (try k_fold))); (rotate_right 1); (focus (intro u hu r v g h tk news1 hs F N; obtain ⟨op, to, h1, h2⟩ := hu; (have hm1 := hs _ (List.Mem.head _)); (try have hm2 := hs _ (List.Mem.tail _ (List.Mem.head _))); (try have hm3 := hs _ (List.Mem.tail _ (List.Mem.tail _ (List.Mem.head _)))); (try dsimp only); (try k_fold)))))
  (k_with "exec If" => ((with_reducible show wpAny _ _ (exec (Stmt.If (PySem.Expr.Compare (PySem.Expr.Name "tag" _) [PySem.CmpOp.Eq] _ _) _ _ _) _) _ _ _); (fail_if_success (with_reducible show wpAny _ _ _ (JEnd _ _ _ _) _ _)); k_dflt (refine' join_have (by assumption) ?F ?N ?_ ?_; (case F => k_asm); (case N => k_asm)); (rotate_left 1); (focus (intros; (try k_fold))); (rotate_right 1)))
  trivial
theorem c_oneX (w : World) (T n : Int) (tT tn : Tok) (news : Led) (hT : 4 ≤ T ∧ T ≤ 8) (hn : inT n T) : Con w 250 10 [.int T tT, .int n tn] news (fun P => P (.bool true) []) := by
  have hT4 : 4 ≤ T := hT.1
  have hT3 : ¬ T ≤ 3 := Int.not_le.mpr (Int.lt_of_lt_of_le (by decide) hT4)
  intro mean mg mb dp un gd cn cs a ccd cl outer A₀ base h₀ L m s Q E B F X N T hk hd hu hret
  ktn_step
  all_goals first
    | (refine' tpost_next ?F ?N ?M ?J; (case F => assumption); (case N => assumption); (case M => intro p hp; (repeat (first | exact hp | refine List.Mem.tail _ ?_))); (case J => refine j3_of ?_; intro z h1 h2 h3; simp only [if_neg h1, if_neg h2, if_neg h3]))
    | exact jend_h2 (by assumption) (by assumption) (by assumption) (by assumption)
    | exact jend_h4 (by assumption) (by assumption) (by assumption) (by assumption) rfl
    | exact hret _ _ (by k_asm) (fun p hp => (by assumption : News _ _ _ _) p (by (repeat (first | exact hp | refine List.Mem.tail _ ?_)))) ord0
theorem c_one (w : World) (T n : Int) (tT tn : Tok) (news : Led) (hT : 1 ≤ T ∧ T ≤ 8) (hn : inT n T) : Con w 250 10 [.int T tT, .int n tn] news (fun P => P (.bool true) []) := by
  by_cases h : T ≤ 3
  · exact c_oneN w T n tT tn news (show T = 1 ∨ T = 2 ∨ T = 3 by omega) hn h
  · exact c_oneX w T n tT tn news (by omega) hn
end
section
section
variable {prog : Program} {w : World} {A : Around} {E : Value → Shared → Prop} {s : Shared} {env : Env} {h₀ : Heap} {x : PySem.Str} {body : List Stmt} {Q : Flow → Shared → Prop} {L : Addr}
theorem loop_rng {r : Addr} {a₀ b₀ : Int} {t₀ u₀ v₀ : Tok} {n : Nat} {m₀ : Mp} {news : Led} (J : Fam)
    (hh : A.handled = none) (hr : IsRange s.heap r a₀ b₀ 1 t₀ u₀ v₀) (hsmall : Builtin.Range.small a₀ b₀ 1 = true) (hn : Builtin.Range.rangeSize a₀ b₀ 1 = (n : Int)) (F : Fr h₀ env.locals s.heap m₀) (N : News h₀ env.locals s.heap news) (hj : ∀ P, J P → P m₀)
    (turn : ∀ k t, a₀ ≤ k → k < a₀ + (n : Int) → J fun m₁ => ∀ h tk news₁, (∀ p ∈ news, p ∈ news₁) → Fr h₀ env.locals h (fun y => if y = x then some (.int k t) else m₁ y) → News h₀ env.locals h news₁ →
      wpAny (model prog w) A (execs body env) (TPost h₀ env.locals J news₁ { s with heap := h, toks := tk } Q) E { s with heap := h, toks := tk })
    (done : J fun m₁ => ∀ h tk, Fr h₀ env.locals h m₁ → News h₀ env.locals h news → Q .next { s with heap := h, toks := tk }) :
    wpAny (model prog w) A (pyIter (.ref r)) (fun it s₂ => LoopAtV prog w A h₀ env x body Q E it s₂) E s := by
  refine wpAny_pyIter_range hr hsmall ?_
  have W : Walks prog w A s.heap.objs.size [s.heap.objs.size] [s.heap.objs.size] n (fun i v => i < n ∧ ∃ t, v = .int (a₀ + i * 1) t)
      (fun i h => IsRangeIter h s.heap.objs.size (a₀ + (i : Nat) * 1) ((n : Int) - (i : Nat)) 1) := (Walks.range hh _ a₀ 1 n).bound
  let J' : Nat → Mp → Led → Prop := fun _ m₁ news₁ => news₁ = news ∧ ∀ P, J P → P m₁
  refine ⟨_, _, _, n, _, _, m₀, news, J', rfl, W, ?_, ?_, ?_, (by show IsRangeIter _ _ _ _ _; rw [hn]; simpa using Heap.get?_push_size _ rfl), F.push _, (fun p hp => ⟨Heap.get?_push_of_some _ (N p hp).1, (N p hp).2⟩), ⟨rfl, hj⟩, ?_, ?_⟩
  · intro hm
    exact absurd F.ns.lt ((List.mem_singleton.mp hm) ▸ Nat.lt_irrefl _)
  · intro b hb
    rw [List.mem_singleton.mp hb]
    exact next_is_new F
  · intro p hp hI
    exact absurd (Heap.lt_size (N p hp).1) ((List.mem_singleton.mp hI) ▸ Nat.lt_irrefl _)
  · rintro i v m₁ news₁ s₁ own ⟨hh', tk', rfl⟩ hin ⟨_, t, rfl⟩ ⟨rfl, hJ⟩ hoff _ _ _ _ F₁ N₁
    have e1 : a₀ + (i : Int) * 1 = a₀ + (i : Int) := by omega
    rw [e1] at F₁
    refine wpAny_mono (hJ _ (turn (a₀ + (i : Int)) t (by omega) (by omega)) hh' tk' (own ++ news₁) (fun p hp => List.mem_append_right _ hp) F₁ N₁) (fun f s₂ p => ?_) fun _ _ e => e
    have fin : (∃ h' tk m' news', s₂ = { s with heap := h', toks := tk } ∧ Fr h₀ env.locals h' m' ∧ News h₀ env.locals h' news' ∧ (∀ p ∈ own ++ news₁, p ∈ news') ∧ ∀ P, J P → P m') → LoopStepU h₀ env.locals [s.heap.objs.size] own (J' (i + 1)) { s with heap := hh', toks := tk' } .next s₂ := by
      rintro ⟨h', tk, m', news', e, F', N', hn, hm⟩
      exact ⟨rfl, h', tk, m', news₁, e, F', fun p hp => N' p (hn p hp), hoff, rfl, hm⟩
    cases f with
    | ret v => exact .ret p
    | brk => exact .brk p
    | next => exact .next (fin p)
    | cont => exact .cont (fin p)
  · rintro h' tk m' news' F' N' _ ⟨rfl, hJ⟩
    exact hJ _ done h' tk F' N'
def J4 (a b c d : PySem.Str) (m₀ : Mp) : Fam := fun P => ∀ r v g k : Option Value, P (fun z => if z = a then r else if z = b then v else if z = c then g else if z = d then k else m₀ z)
theorem j4_of {a b c d : PySem.Str} {m₀ m' : Mp} (h : ∀ z, z ≠ a → z ≠ b → z ≠ c → z ≠ d → m' z = m₀ z) : ∀ P, J4 a b c d m₀ P → P m' := fun P hP => by
  have e : m' = fun z => if z = a then m' a else if z = b then m' b else if z = c then m' c else if z = d then m' d else m₀ z := by
    funext z
    by_cases h1 : z = a
    · rw [if_pos h1, h1]
    · rw [if_neg h1]
      by_cases h2 : z = b
      · rw [if_pos h2, h2]
      · rw [if_neg h2]
        by_cases h3 : z = c
        · rw [if_pos h3, h3]
        · rw [if_neg h3]
          by_cases h4 : z = d
          · rw [if_pos h4, h4]
          · rw [if_neg h4, h z h1 h2 h3 h4]
  rw [e]
  exact hP _ _ _ _
theorem cnt_bd (l : Nat) : 0 ≤ (if (if (l : Int) < 5 then (l : Int) else 5) > 1 then (if (l : Int) < 5 then (l : Int) else 5) else 1) ∧ (if (if (l : Int) < 5 then (l : Int) else 5) > 1 then (if (l : Int) < 5 then (l : Int) else 5) else 1) ≤ 5 := by
  split <;> split <;> omega
theorem loop_law {r : Addr} {b₀ : Int} {t₀ u₀ v₀ : Tok} {m₀ : Mp} {news : Led}
    (hh : A.handled = none) (hr : IsRange s.heap r 0 b₀ 1 t₀ u₀ v₀) (hb : 0 ≤ b₀ ∧ b₀ ≤ 5) (F : Fr h₀ env.locals s.heap m₀) (N : News h₀ env.locals s.heap news)
    (turn : ∀ k t, 0 ≤ k → k < 5 → ∀ (r v g u : Option Value) h tk news₁, (∀ p ∈ news, p ∈ news₁) → Fr h₀ env.locals h (fun y => if y = x then some (.int k t) else if y = Str.ofString "p" then r else if y = Str.ofString "x" then v else if y = Str.ofString "tag" then g else if y = Str.ofString "n" then u else m₀ y) → News h₀ env.locals h news₁ →
      wpAny (model prog w) A (execs body env) (TPost h₀ env.locals (J4 (Str.ofString "p") (Str.ofString "x") (Str.ofString "tag") (Str.ofString "n") m₀) news₁ { s with heap := h, toks := tk } Q) E { s with heap := h, toks := tk })
    (done : ∀ (r v g u : Option Value) h tk, Fr h₀ env.locals h (fun y => if y = Str.ofString "p" then r else if y = Str.ofString "x" then v else if y = Str.ofString "tag" then g else if y = Str.ofString "n" then u else m₀ y) → News h₀ env.locals h news → Q .next { s with heap := h, toks := tk }) :
    wpAny (model prog w) A (pyIter (.ref r)) (fun it s₂ => LoopAtV prog w A h₀ env x body Q E it s₂) E s :=
  loop_rng (J4 (Str.ofString "p") (Str.ofString "x") (Str.ofString "tag") (Str.ofString "n") m₀) hh hr (small_one (by decide) (by decide) (by omega) (by omega)) (rangeSize_nat _ _) F N (j4_of fun _ _ _ _ _ => rfl)
    (fun k t h0 h1 r v g u h tk news₁ hs F N => turn k t h0 (by omega) r v g u h tk news₁ hs F N) done
end
end
section
theorem words29 : True := by
  k_with_none
  (k_with "eval Call" => k_dflt (refine Call_ ?_))
  (k_with "call ref" => (k_dflt (cell_ask (c_drawn _ _ _ _)); (try dsimp only [List.nil_append, List.cons_append]); intros; (try k_fold)))
  (k_with "call ref" => (k_dflt (cell_ask (c_one _ _ _ _ _ _ (by assumption) (by assumption))); (try dsimp only [List.nil_append, List.cons_append]); intros; (try k_fold)))
  (k_with "pyIter ref" => ((with_reducible show wpAny _ _ (pyIter (Value.ref _)) (fun it s₂ => LoopAtV _ _ _ _ _ _ _ _ _ it s₂) _ _); k_dflt (refine' loop_law ?hh ?hr ?hb ?F ?N ?_ ?_; (case hh => exact rfl); (case hr => assumption); (case hb => exact cnt_bd _); (case F => k_asm); (case N => k_asm)); (focus (intro k t h1 h2 r v g u h tk news1 hs F N; (try dsimp only); (try k_fold))); (rotate_left 1); (focus (intros; (try dsimp only); (try k_fold))); (rotate_right 1)))
  trivial
theorem law_holds : PySem.Challenge.rw_qd0032_01.Holds := hd (by
  k_go0
  (all_goals try k_fold)
  k_steps
  all_goals (refine' tpost_next ?F ?N ?M ?J; (case F => assumption); (case N => assumption); (case M => intro p hp; repeat (first | exact hp | refine List.Mem.tail _ ?_)); (case J => refine j4_of ?_; intro z h1 h2 h3 h4; simp only [if_neg h1, if_neg h2, if_neg h3, if_neg h4])))
end
end Mine
set_option maxRecDepth 100000 in
set_option maxHeartbeats 8000000 in
theorem PySem.Challenge.cw_qd0032_01_holds : PySem.Challenge.rw_qd0032_01.Holds := by
  exact Mine.law_holds
