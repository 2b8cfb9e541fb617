import PyProof.Rows.All
import Wide.All
import OpenK.AllK
import Wide.FinOn
import PySem.Challenge.RW_sq0052_01
open PySem PySem.W PyProof.Rows
set_option Elab.async false
set_option maxRecDepth 100000
namespace Mine
section
local macro_rules | `(tactic| o_head $_) => `(tactic| skip)
set_option maxHeartbeats 8000000 in
/-- lays the written part of the top, the constant hd.heap_1, and proves nothing else -/
theorem hd : False → True := by
  intro f
  suffices _ : (PySem.Challenge.rw_sq0052_01.row).Holds from trivial
  w_on
  k_head
  exact f.elim
end
/-- what a contract's proof may lean on: the ledger in, the ledger and the value out -/
def Say (prog : Program) (w : World) (K : Frag) (f : Addr) (args : List Value) (led : List (Addr × Obj)) (dD dU : Nat) (Out : Value → List (Addr × Obj) → Prop) : Prop :=
  ∀ (p : Program) (loose : List Str) (mean : ExcName → Option Value) (mg mb : Str → Option Value) (dp un : Nat) (gd : Option (List Code)) (cn : Str) (cs : Scope) (a : Addr) (ccd : Value) (cl : List (Str × Addr)) (outer : List Env) (A₀ : Around) (base h₀ : Heap) (L : Addr) (m : Str → Option Value) (s : Shared)
    (Q E : Value → Shared → Prop),
    Below A₀ base outer h₀ → Fr h₀ L s.heap m → K.In h₀ → News h₀ L s.heap led → Top p loose mean mg mb h₀ → cs.kind = .function → dp + dD < recursionLimit → un + dU < cLine →
    (∀ v led' h' tk', Fr h₀ L h' m → News h₀ L h' led' → Out v led' → Q v { s with heap := h', toks := tk' }) →
    wpAny (model prog w) (ktrTop dp un gd cn cs L a ccd cl outer) (call (.ref f) args) Q E s
/-- the same with the state's parts as names: shorter states along the walk -/
theorem say_in {prog : Program} {w : World} {K : Frag} {f : Addr} {args : List Value} {led : List (Addr × Obj)} {dD dU : Nat} {Out : Value → List (Addr × Obj) → Prop}
    (h : ∀ (p : Program) (loose : List Str) (mean : ExcName → Option Value) (mg mb : Str → Option Value) (dp un : Nat) (gd : Option (List Code)) (cn : Str) (cs : Scope) (a : Addr) (ccd : Value) (cl : List (Str × Addr)) (outer : List Env) (A₀ : Around) (base h₀ : Heap) (L : Addr) (m : Str → Option Value) hp₀ gn₀ dr₀ tk₀ os₀
      (Q E : Value → Shared → Prop),
      Below A₀ base outer h₀ → Fr h₀ L hp₀ m → K.In h₀ → News h₀ L hp₀ led → Top p loose mean mg mb h₀ → cs.kind = .function → dp + dD < recursionLimit → un + dU < cLine →
      (∀ v led' h' tk', Fr h₀ L h' m → News h₀ L h' led' → Out v led' → Q v (.mk h' gn₀ dr₀ tk' os₀)) →
      wpAny (model prog w) (ktrTop dp un gd cn cs L a ccd cl outer) (call (.ref f) args) Q E (.mk hp₀ gn₀ dr₀ tk₀ os₀)) : Say prog w K f args led dD dU Out :=
  fun p loose mean mg mb dp un gd cn cs a ccd cl outer A₀ base h₀ L m s Q E B F X N T hk hd hu hret => h p loose mean mg mb dp un gd cn cs a ccd cl outer A₀ base h₀ L m s.heap s.gens s.drawn s.toks s.os Q E B F X N T hk hd hu hret
/-- the law's own program and its written part -/
def HasLaw (_ : OpenLaw) (_ : Params → Frag) : Prop := True
abbrev prog : Program := PySem.Challenge.rw_sq0052_01.row.prog
/-- the pool: a list of two ints -/
abbrev poolO (a : Int) (ta : Tok) (b : Int) (tb : Tok) : Obj := listOf #[.int a ta, .int b tb] 0
def PoolOk (a b : Int) : Prop := 0 ≤ a ∧ 0 ≤ b ∧ b < 2147483647

theorem units_under_kw (A : Around) (C : Addr) (vals : List Value) (kw : List (Str × Value)) : (A.under (.builtin "type.__call__" ⟨.ref C :: vals, kw⟩)).units = A.units + 1 := rfl
theorem fill_all : HasLaw PySem.Challenge.rw_sq0052_01 hd.heap_1 := by
  k_fill
  trivial
theorem room0 {d n L : Nat} (h : d + n < L) : d < L := Nat.lt_of_le_of_lt (Nat.le_add_right d n) h
theorem room1 {d n a L : Nat} (h : d + n < L) (c : Nat.ble a n = true) : d + a < L := Nat.lt_of_le_of_lt (Nat.add_le_add_left (Nat.le_of_ble_eq_true c) d) h
theorem room2 {d n a b L : Nat} (h : d + n < L) (c : Nat.ble (a + b) n = true) : d + a + b < L := by rw [Nat.add_assoc]; exact room1 h c
theorem room3 {d n a b e L : Nat} (h : d + n < L) (c : Nat.ble (a + (b + e)) n = true) : d + a + b + e < L := by rw [Nat.add_assoc, Nat.add_assoc]; exact room1 h c
section
variable {a b : Nat} {q p1 p2 p3 p4 p5 p6 p7 p8 : Prop}
theorem nl0 (h : a < b ∧ q) : a ≠ b := Nat.ne_of_lt h.1
theorem ng0 (h : b < a ∧ q) : a ≠ b := Nat.ne_of_gt h.1
theorem nl1 (h : p1 ∧ a < b ∧ q) : a ≠ b := Nat.ne_of_lt h.2.1
theorem ng1 (h : p1 ∧ b < a ∧ q) : a ≠ b := Nat.ne_of_gt h.2.1
theorem nl2 (h : p1 ∧ p2 ∧ a < b ∧ q) : a ≠ b := Nat.ne_of_lt h.2.2.1
theorem ng2 (h : p1 ∧ p2 ∧ b < a ∧ q) : a ≠ b := Nat.ne_of_gt h.2.2.1
theorem nl3 (h : p1 ∧ p2 ∧ p3 ∧ a < b ∧ q) : a ≠ b := Nat.ne_of_lt h.2.2.2.1
theorem ng3 (h : p1 ∧ p2 ∧ p3 ∧ b < a ∧ q) : a ≠ b := Nat.ne_of_gt h.2.2.2.1
theorem nl4 (h : p1 ∧ p2 ∧ p3 ∧ p4 ∧ a < b ∧ q) : a ≠ b := Nat.ne_of_lt h.2.2.2.2.1
theorem ng4 (h : p1 ∧ p2 ∧ p3 ∧ p4 ∧ b < a ∧ q) : a ≠ b := Nat.ne_of_gt h.2.2.2.2.1
theorem nl5 (h : p1 ∧ p2 ∧ p3 ∧ p4 ∧ p5 ∧ a < b ∧ q) : a ≠ b := Nat.ne_of_lt h.2.2.2.2.2.1
theorem ng5 (h : p1 ∧ p2 ∧ p3 ∧ p4 ∧ p5 ∧ b < a ∧ q) : a ≠ b := Nat.ne_of_gt h.2.2.2.2.2.1
theorem nl6 (h : p1 ∧ p2 ∧ p3 ∧ p4 ∧ p5 ∧ p6 ∧ a < b ∧ q) : a ≠ b := Nat.ne_of_lt h.2.2.2.2.2.2.1
theorem ng6 (h : p1 ∧ p2 ∧ p3 ∧ p4 ∧ p5 ∧ p6 ∧ b < a ∧ q) : a ≠ b := Nat.ne_of_gt h.2.2.2.2.2.2.1
theorem nl7 (h : p1 ∧ p2 ∧ p3 ∧ p4 ∧ p5 ∧ p6 ∧ p7 ∧ a < b ∧ q) : a ≠ b := Nat.ne_of_lt h.2.2.2.2.2.2.2.1
theorem ng7 (h : p1 ∧ p2 ∧ p3 ∧ p4 ∧ p5 ∧ p6 ∧ p7 ∧ b < a ∧ q) : a ≠ b := Nat.ne_of_gt h.2.2.2.2.2.2.2.1
theorem nle1 (h : p1 ∧ a < b) : a ≠ b := Nat.ne_of_lt h.2
theorem nge1 (h : p1 ∧ b < a) : a ≠ b := Nat.ne_of_gt h.2
theorem nle2 (h : p1 ∧ p2 ∧ a < b) : a ≠ b := Nat.ne_of_lt h.2.2
theorem nge2 (h : p1 ∧ p2 ∧ b < a) : a ≠ b := Nat.ne_of_gt h.2.2
theorem nle3 (h : p1 ∧ p2 ∧ p3 ∧ a < b) : a ≠ b := Nat.ne_of_lt h.2.2.2
theorem nge3 (h : p1 ∧ p2 ∧ p3 ∧ b < a) : a ≠ b := Nat.ne_of_gt h.2.2.2
theorem nle4 (h : p1 ∧ p2 ∧ p3 ∧ p4 ∧ a < b) : a ≠ b := Nat.ne_of_lt h.2.2.2.2
theorem nge4 (h : p1 ∧ p2 ∧ p3 ∧ p4 ∧ b < a) : a ≠ b := Nat.ne_of_gt h.2.2.2.2
theorem nle5 (h : p1 ∧ p2 ∧ p3 ∧ p4 ∧ p5 ∧ a < b) : a ≠ b := Nat.ne_of_lt h.2.2.2.2.2
theorem nge5 (h : p1 ∧ p2 ∧ p3 ∧ p4 ∧ p5 ∧ b < a) : a ≠ b := Nat.ne_of_gt h.2.2.2.2.2
theorem nle6 (h : p1 ∧ p2 ∧ p3 ∧ p4 ∧ p5 ∧ p6 ∧ a < b) : a ≠ b := Nat.ne_of_lt h.2.2.2.2.2.2
theorem nge6 (h : p1 ∧ p2 ∧ p3 ∧ p4 ∧ p5 ∧ p6 ∧ b < a) : a ≠ b := Nat.ne_of_gt h.2.2.2.2.2.2
end
section
variable {a b : Nat} {q p1 p2 p3 p4 p5 p6 p7 p8 : Prop}
theorem lt0 (h : a < b ∧ q) : a < b := h.1
theorem lt1 (h : p1 ∧ a < b ∧ q) : a < b := h.2.1
theorem lt2 (h : p1 ∧ p2 ∧ a < b ∧ q) : a < b := h.2.2.1
theorem lt3 (h : p1 ∧ p2 ∧ p3 ∧ a < b ∧ q) : a < b := h.2.2.2.1
theorem lt4 (h : p1 ∧ p2 ∧ p3 ∧ p4 ∧ a < b ∧ q) : a < b := h.2.2.2.2.1
theorem lt5 (h : p1 ∧ p2 ∧ p3 ∧ p4 ∧ p5 ∧ a < b ∧ q) : a < b := h.2.2.2.2.2.1
theorem lt6 (h : p1 ∧ p2 ∧ p3 ∧ p4 ∧ p5 ∧ p6 ∧ a < b ∧ q) : a < b := h.2.2.2.2.2.2.1
theorem lt7 (h : p1 ∧ p2 ∧ p3 ∧ p4 ∧ p5 ∧ p6 ∧ p7 ∧ a < b ∧ q) : a < b := h.2.2.2.2.2.2.2.1
theorem lte1 (h : p1 ∧ a < b) : a < b := h.2
theorem lte2 (h : p1 ∧ p2 ∧ a < b) : a < b := h.2.2
theorem lte3 (h : p1 ∧ p2 ∧ p3 ∧ a < b) : a < b := h.2.2.2
theorem lte4 (h : p1 ∧ p2 ∧ p3 ∧ p4 ∧ a < b) : a < b := h.2.2.2.2
theorem lte5 (h : p1 ∧ p2 ∧ p3 ∧ p4 ∧ p5 ∧ a < b) : a < b := h.2.2.2.2.2
theorem lte6 (h : p1 ∧ p2 ∧ p3 ∧ p4 ∧ p5 ∧ p6 ∧ a < b) : a < b := h.2.2.2.2.2.2
end
theorem dim_lo {k : Int} (h : 0 ≤ k) : -1073741823 ≤ k := Int.le_trans (by decide) h
theorem dim_hi {k : Int} (h : k < 100) : k ≤ 1073741823 := Int.le_trans (Int.le_of_lt h) (by decide)
local macro_rules | `(tactic| k_qdec) => `(tactic| with_reducible first | assumption | exact lt0 (by assumption) | exact lt1 (by assumption) | exact lt2 (by assumption) | exact lt3 (by assumption) | exact lt4 (by assumption) | exact lt5 (by assumption) | exact lt6 (by assumption) | exact lt7 (by assumption) | exact lte1 (by assumption) | exact lte2 (by assumption) | exact lte3 (by assumption) | exact lte4 (by assumption) | exact lte5 (by assumption) | exact lte6 (by assumption))
local macro_rules | `(tactic| k_ne) => `(tactic| (refine neN ?_; (try dsimp only); with_reducible (first | assumption | exact Nat.ne_of_lt (by assumption) | exact Nat.ne_of_gt (by assumption) | exact nl0 (by assumption) | exact ng0 (by assumption) | exact nl1 (by assumption) | exact ng1 (by assumption) | exact nl2 (by assumption) | exact ng2 (by assumption) | exact nl3 (by assumption) | exact ng3 (by assumption) | exact nl4 (by assumption) | exact ng4 (by assumption) | exact nl5 (by assumption) | exact ng5 (by assumption) | exact nl6 (by assumption) | exact ng6 (by assumption) | exact nl7 (by assumption) | exact ng7 (by assumption) | exact nle1 (by assumption) | exact nge1 (by assumption) | exact nle2 (by assumption) | exact nge2 (by assumption) | exact nle3 (by assumption) | exact nge3 (by assumption) | exact nle4 (by assumption) | exact nge4 (by assumption) | exact nle5 (by assumption) | exact nge5 (by assumption) | exact nle6 (by assumption) | exact nge6 (by assumption))))
local macro_rules | `(tactic| k_room) => `(tactic| first | exact room1 (by with_reducible assumption) (by exact rfl) | exact room2 (by with_reducible assumption) (by exact rfl) | exact room3 (by with_reducible assumption) (by exact rfl) | exact room0 (by with_reducible assumption) | ((try simp only [depth_under_make, depth_under_kw, depth_in1, depth_deeper, depth_caller]); (try dsimp only [ktrTop]); first | exact room1 (by with_reducible assumption) (by exact rfl) | exact room2 (by with_reducible assumption) (by exact rfl) | exact room3 (by with_reducible assumption) (by exact rfl) | exact room0 (by with_reducible assumption) | omega))
local macro_rules | `(tactic| k_units) => `(tactic| first | exact room1 (by with_reducible assumption) (by exact rfl) | exact room2 (by with_reducible assumption) (by exact rfl) | exact room3 (by with_reducible assumption) (by exact rfl) | exact Nat.le_of_ble_eq_true rfl | ((have hcL9 := cLine_is); (try simp only [units_in1, units_deeper, units_under_make, units_under_kw, Around.mark_units, units_caller]); (try dsimp only [ktrTop]); first | exact room1 (by with_reducible assumption) (by exact rfl) | exact room2 (by with_reducible assumption) (by exact rfl) | exact room3 (by with_reducible assumption) (by exact rfl) | exact Nat.le_of_ble_eq_true rfl | omega))
local macro_rules | `(tactic| k_all) => `(tactic| with_reducible assumption)
local macro_rules | `(tactic| k_mem) => `(tactic| first | exact List.mem_cons_self | with_reducible assumption | (refine List.mem_cons_of_mem _ ?_; k_mem) | (refine List.mem_append.mpr (Or.inr ?_); k_mem) | (refine List.mem_append.mpr (Or.inl ?_); k_mem))
local macro_rules | `(tactic| k_lt $h:ident) => `(tactic| (replace $h := allLt_of $h; (try simp only [AllLt, and_true] at $h:ident); (try (have lA9 := $h; (repeat (replace lA9 := And.right lA9))))))
local macro_rules | `(tactic| ktr_enter) => `(tactic| (refine' code_def ?k1 ?k2 ?k3 ?k4 ?k5 ?kA ?kF ?kK ?k6 ?k7 ?k8 ?k9 ?kB ?_ ?c2 ?c3 ?c4 ?c5; (case kA => exact rfl); (case kF => exact rfl); (case kK => assumption); (case k1 => k_asm); (case k2 => k_asm); (case k3 => k_asm); (case k4 => k_asm); (case k5 => k_asm); (case k6 => k_is); (case k7 => k_is); (case k8 => k_room); (case k9 => first | exact BindsTo.of_eq rfl | exact binds_K (by k_in) rfl (by k_is) rfl rfl rfl); (case c5 => decide); (case kB => exact locs rfl); (case c2 => exact rfl); (case c3 => exact rfl); (case c4 => exact rfl); k_whole; intro g' L' h' FG' F' N' B' X' T'; (try dsimp only); (try k_fold)))
inductive TakeOut (pl : Addr) (rest : List (Addr × Obj)) (n : Int) (v : Value) (led : List (Addr × Obj)) : Prop where
  | mk : ∀ k t a ta b tb, v = .int k t → led = (pl, poolO a ta b tb) :: rest → PoolOk a b → 0 ≤ k → k < n → TakeOut pl rest n v led
set_option maxHeartbeats 8000000 in
theorem take_ (w : World) (pl : Addr) (a b n : Int) (ta tb tn : Tok) (rest : List (Addr × Obj)) (hoff : ∀ p ∈ rest, p.1 ≠ pl) (hp : PoolOk a b) (hn : 0 < n) (hn2 : n < 1000) :
    Say prog w (hd.heap_1 w.params) 626 [.ref pl, .int n tn] ((pl, poolO a ta b tb) :: rest) 2 8 (TakeOut pl rest n) := by
  refine say_in ?_
  intro p loose mean mg mb dp un gd cn cs a ccd cl outer A₀ base h₀ L m hp₀ gn₀ dr₀ tk₀ os₀ Q E B F X N T hk hd hu hret
  obtain ⟨hp1, hp2, hp3⟩ := hp
  w_on
  refine wpAny_call ?_
  k_dflt ktr_enter
  k_steps
  all_goals
    refine hret _ _ _ _ (by k_asm) (by k_asm) ⟨_, _, _, _, _, _, rfl, rfl, ⟨?_, ?_, ?_⟩, ?_, ?_⟩
    all_goals simp only [List.getD_cons_zero, List.getD_cons_succ, Int.toNat_zero, Int.toNat_one] at *
    all_goals first | assumption | exact Int.fmod_nonneg_of_pos _ (by omega) | exact Int.fmod_lt_of_pos _ (by omega) | exact Int.fdiv_nonneg (by omega) (by omega)
/-- the same, wherever the pool stands in the ledger -/
theorem take_use {w : World} {pl : Addr} {a b n : Int} {ta tb tn : Tok} {led : List (Addr × Obj)} {g : Obj → List (Addr × Obj)} {p : Program} {loose : List Str} {mean : ExcName → Option Value} {mg mb : Str → Option Value} {dp un : Nat} {gd : Option (List Code)} {cn : Str} {cs : Scope} {ad : Addr} {ccd : Value} {cl : List (Str × Addr)} {outer : List Env} {A₀ : Around} {base h₀ : Heap} {L : Addr} {m : Str → Option Value} {hp₁ : Heap} {gn₁ : Array GenState} {dr₁ : Drawn} {tk₁ : Nat} {os₁ : OsState}
    {Q E : Value → Shared → Prop} (B : Below A₀ base outer h₀) (F : Fr h₀ L hp₁ m) (X : (hd.heap_1 w.params).In h₀) (N : News h₀ L hp₁ led) (T : Top p loose mean mg mb h₀) (hk : cs.kind = .function)
    (U : UpdF pl (poolO a ta b tb) led g) (hp : PoolOk a b) (hn : 0 < n) (hn2 : n < 1000) (hd : dp + 2 < recursionLimit) (hu : un + 8 < cLine)
    (ret : ∀ k t a ta b tb h' tk', PoolOk a b → 0 ≤ k → k < n → Fr h₀ L h' m → News h₀ L h' (g (poolO a ta b tb)) → Q (.int k t) (.mk h' gn₁ dr₁ tk' os₁)) :
    wpAny (model prog w) (ktrTop dp un gd cn cs L ad ccd cl outer) (call (.ref 626) [.ref pl, .int n tn]) Q E (.mk hp₁ gn₁ dr₁ tk₁ os₁) := by
  obtain ⟨pre, post, e, eg, h1, h2⟩ := U.split
  subst e
  have N1 : News h₀ L hp₁ ((pl, poolO a ta b tb) :: (pre ++ post)) := fun q hq => N q (by
    rcases List.mem_cons.mp hq with rfl | hq
    · simp
    · rcases List.mem_append.mp hq with hq | hq <;> simp [hq])
  refine take_ w pl a b n ta tb tn (pre ++ post) (fun q hq => (List.mem_append.mp hq).elim (h1 q) (h2 q)) hp hn hn2 p loose mean mg mb dp un gd cn cs ad ccd cl outer A₀ base h₀ L m (.mk hp₁ gn₁ dr₁ tk₁ os₁) Q E B F X N1 T hk hd hu ?_
  rintro v led' h' tk' F' N' ⟨k, t, a', ta', b', tb', rfl, rfl, hp', k0, k1⟩
  refine ret k t a' ta' b' tb' h' tk' hp' k0 k1 F' ?_
  rw [eg]
  exact fun q hq => N' q (by
    rcases List.mem_append.mp hq with hq | hq
    · simp [hq]
    · rcases List.mem_cons.mp hq with rfl | hq <;> simp_all)
section
variable {w : World} {A : Around} {E : Value → Shared → Prop} {s : Shared} {t u : Tok} {Q : Value → Shared → Prop}
theorem pow_2_30 (h : Q (.int 1073741824 s.toks) { s with toks := s.toks + 1 }) : wpAny (model prog w) A (binaryOp .Pow (.int 2 t) (.int 30 u)) Q E s :=
  pow_int_small (by decide) (by decide) (by decide) h
theorem pow_10_18 (h : Q (.int 1000000000000000000 s.toks) { s with toks := s.toks + 1 }) : wpAny (model prog w) A (binaryOp .Pow (.int 10 t) (.int 18 u)) Q E s :=
  pow_int_small (by decide) (by decide) (by decide) h
/-- ten to the 120th -/
def big : Int := 10 ^ 120
theorem pow_10_120 (h : Q (.int big s.toks) { s with toks := s.toks + 1 }) : wpAny (model prog w) A (binaryOp .Pow (.int 10 t) (.int 120 u)) Q E s :=
  pow_int_small (by decide) (by decide) (by decide) h
end

section
variable {w : World} {A : Around} {E : Value → Shared → Prop} {s : Shared} {u : Tok} {Q : Value → Shared → Prop} {h₀ : Heap} {L D : Addr} {news : List (Addr × Obj)} {vs : List Value} {n : Nat} {k Z : Int}
/-- an item of a made list at a place that lies in it: one of the items -/
theorem sub_any {value slice : PySem.Expr} (N : News h₀ L s.heap news) (hm : (D, listOf vs.toArray n) ∈ news) (h0 : 0 ≤ k) (h1 : k < Z) (hN : (vs.length : Int) = Z) (hl : Z < 1000) (h : ∀ v, v ∈ vs → Q v s)
    (hs : subscripted slice false (.ref D) (.int k u) = operate [.ref D, .int k u] (getItem (.ref D) (.int k u)) := by with_unfolding_all rfl) :
    wpAny (model prog w) A (subscriptTail value slice (.ref D) (.int k u)) Q E s := by
  have hL : s.heap.IsList D vs.toArray := ⟨_, N.get hm, rfl, n, rfl⟩
  have hj : k.toNat < vs.length := by omega
  exact tail_any hL.typeIs slot_list_getitem.lookup (wpAny_getItem_list hL h0 (by omega) (by simpa using List.getElem?_eq_getElem hj) (h _ (List.getElem_mem hj))) hs
end

def isI : Value → Bool
  | .int _ _ => true
  | _ => false
def intOf : Value → Int
  | .int k _ => k
  | _ => 0
theorem ints_mem {v : Value} {vs : List Value} (h : v ∈ vs) (e : vs.all isI = true) : ∃ k t, v = .int k t ∧ k ∈ vs.map intOf := by
  have q := List.all_eq_true.mp e v h
  cases v <;> simp only [isI] at q
  case int k t => exact ⟨k, t, rfl, List.mem_map.mpr ⟨_, h, rfl⟩⟩
  all_goals exact absurd q (by decide)
section
variable {M : Model} {A : Around} {E : Value → Shared → Prop} {s : Shared} {env : Env}
/-- a statement, then the rest from whatever holds between them -/
theorem execs_cut {st : Stmt} {rest : List Stmt} {Q : Flow → Shared → Prop} (Mid : Shared → Prop) (h1 : wpAny M A (exec st env) (fun f s' => f = .next ∧ Mid s') E s) (h2 : ∀ s', Mid s' → wpAny M A (execs rest env) Q E s') :
    wpAny M A (execs (st :: rest) env) Q E s := by
  refine wpAny_execs_cons (wpAny_mono h1 (fun f s' h => ?_) fun _ _ e => e)
  obtain ⟨rfl, hm⟩ := h
  exact h2 s' hm
end
section
variable {prog : Program} {w : World} {A : Around} {E : Value → Shared → Prop} {s : Shared} {env : Env} {h₀ : Heap} {x : Str} {body : List Stmt} {Q : Flow → Shared → Prop}
/-- a turn's end, where the ledger stands as it was -/
def TupEnd (h₀ : Heap) (L : Addr) (J : (Str → Option Value) → Prop) (led : List (Addr × Obj)) (s₁ : Shared) (Q : Flow → Shared → Prop) (f : Flow) (s₂ : Shared) : Prop :=
  match f with
  | .ret v => Q (.ret v) s₂
  | .brk => Q .next s₂
  | _ => ∃ h' tk m', s₂ = { s₁ with heap := h', toks := tk } ∧ Fr h₀ L h' m' ∧ News h₀ L h' led ∧ J m'
/-- a loop over a made tuple that leaves the ledger as it is -/
theorem tup_iter {ax : Addr} {o : Obj} {vs : List Value} {n : Nat} {m₀ : Str → Option Value} {news : List (Addr × Obj)} (J : Nat → (Str → Option Value) → Prop)
    (hh : A.handled = none) (F : Fr h₀ env.locals s.heap m₀) (N : News h₀ env.locals s.heap news) (ht : (ax, o) ∈ news) (hc : o.cls = .type "tuple") (hd : o.data = .seq vs.toArray n) (hj : J 0 m₀)
    (turn : ∀ i v m₁ h tk own, vs[i]? = some v → J i m₁ → Fr h₀ env.locals h (fun y => if y = x then some v else m₁ y) → News h₀ env.locals h (news ++ own) →
      wpAny (model prog w) A (execs body env) (TupEnd h₀ env.locals (J (i + 1)) (news ++ own) { s with heap := h, toks := tk } Q) E { s with heap := h, toks := tk })
    (done : ∀ m₁ h tk, J vs.length m₁ → Fr h₀ env.locals h m₁ → News h₀ env.locals h news → Q .next { s with heap := h, toks := tk }) :
    wpAny (model prog w) A (pyIter (.ref ax)) (fun it s₂ => LoopAtV prog w A h₀ env x body Q E it s₂) E s := by
  obtain ⟨hax, haL, ha0⟩ := N _ ht
  have htup : s.heap.IsTuple ax vs.toArray := ⟨o, hax, hc, n, hd⟩
  have hne : ax ≠ s.heap.objs.size := Nat.ne_of_lt (Heap.lt_size hax)
  have hsz : vs.toArray.size = vs.length := List.size_toArray
  have hnew : h₀.get? s.heap.objs.size = none := next_is_new F
  refine wpAny_pyIter_tuple htup ?_
  have W := Walks.tuple (prog := prog) (w := w) hh s.heap.objs.size ax hne vs.toArray
  rw [hsz] at W
  refine ⟨_, _, _, vs.length, _, _, m₀, news, fun i m nx => nx = news ∧ J i m, rfl, W, ?_, ?_, ?_, ?_, F.push _, fun p hp => ⟨Heap.get?_push_of_some _ (N p hp).1, (N p hp).2⟩, ⟨rfl, hj⟩, ?_, ?_⟩
  · intro hm
    rcases List.mem_cons.mp hm with e | e
    · exact absurd F.ns.lt (e ▸ Nat.lt_irrefl _)
    · exact haL (List.mem_singleton.mp e).symm
  · intro b hb
    rw [List.mem_singleton.mp hb]; exact hnew
  · intro p hp hm
    exact absurd (Heap.lt_size (N p hp).1) (List.mem_singleton.mp hm ▸ Nat.lt_irrefl _)
  · exact ⟨⟨_, Heap.get?_push_size _ rfl, rfl, rfl⟩, htup.at fun o e => Heap.get?_push_of_some _ e⟩
  · rintro i v m₁ nx s₁ own ⟨h, tk, rfl⟩ hin hP ⟨e, hJ⟩ hoff hown hget hfp hst F₁ N₁
    subst e
    have N₂ : News h₀ env.locals h (nx ++ own) := fun p hp => N₁ p ((List.mem_append.mp hp).elim (fun q => List.mem_append.mpr (.inr q)) fun q => List.mem_append.mpr (.inl q))
    refine wpAny_mono (turn i v m₁ h tk own (by simpa using hP) hJ F₁ N₂) (fun f s₂ hf => ?_) fun _ _ e => e
    have fin : (∃ h' tk' m', s₂ = { s with heap := h', toks := tk' } ∧ Fr h₀ env.locals h' m' ∧ News h₀ env.locals h' (nx ++ own) ∧ J (i + 1) m') →
        LoopStepU h₀ env.locals [s.heap.objs.size] own (fun m nx' => nx' = nx ∧ J (i + 1) m) { s with heap := h, toks := tk } .next s₂ := by
      rintro ⟨h', tk', m', e', F', N', hJ'⟩
      exact ⟨rfl, h', tk', m', nx, e', F', fun p hp => N' p ((List.mem_append.mp hp).elim (fun q => List.mem_append.mpr (.inr q)) fun q => List.mem_append.mpr (.inl q)), hoff, rfl, hJ'⟩
    cases f with
    | ret v => exact .ret hf
    | brk => exact .brk hf
    | next => exact .next (fin hf)
    | cont => exact .cont (fin hf)
  · rintro h' tk m' news' F' N' _ ⟨e, hJ⟩
    exact done m' h' tk hJ F' (e ▸ N')
end
section
variable {prog : Program} {w : World} {A : Around} {E : Value → Shared → Prop} {s : Shared} {env : Env} {h₀ : Heap} {x : Str} {body : List Stmt} {Q : Flow → Shared → Prop}
/-- .. that stores no name but its own -/
theorem tup_plain {ax : Addr} {o : Obj} {vs : List Value} {n : Nat} {m₀ : Str → Option Value} {news : List (Addr × Obj)}
    (hh : A.handled = none) (F : Fr h₀ env.locals s.heap m₀) (N : News h₀ env.locals s.heap news) (ht : (ax, o) ∈ news) (hc : o.cls = .type "tuple") (hd : o.data = .seq vs.toArray n)
    (turn : ∀ v h tk own, v ∈ vs → Fr h₀ env.locals h (fun y => if y = x then some v else m₀ y) → News h₀ env.locals h (news ++ own) →
      wpAny (model prog w) A (execs body env) (TupEnd h₀ env.locals (fun m' => ∀ z, z ≠ x → m' z = m₀ z) (news ++ own) { s with heap := h, toks := tk } Q) E { s with heap := h, toks := tk })
    (done : ∀ (u : Str → Option Value) h tk, Fr h₀ env.locals h (fun y => if y = x then u y else m₀ y) → News h₀ env.locals h news → Q .next { s with heap := h, toks := tk }) :
    wpAny (model prog w) A (pyIter (.ref ax)) (fun it s₂ => LoopAtV prog w A h₀ env x body Q E it s₂) E s := by
  refine tup_iter (fun _ m => ∀ z, z ≠ x → m z = m₀ z) hh F N ht hc hd (fun _ _ => rfl) ?_ ?_
  · intro i v m₁ h tk own hv hm F₁ N₁
    have e : (fun y => if y = x then some v else m₁ y) = fun y => if y = x then some v else m₀ y := by
      funext y
      by_cases h1 : y = x
      · rw [if_pos h1, if_pos h1]
      · rw [if_neg h1, if_neg h1, hm y h1]
    rw [e] at F₁
    exact turn v h tk own (List.mem_of_getElem? hv) F₁ N₁
  · intro m₁ h tk hm F₁ N₁
    refine done m₁ h tk ?_ N₁
    have e : (fun y => if y = x then m₁ y else m₀ y) = m₁ := by
      funext y
      by_cases h1 : y = x
      · rw [if_pos h1]
      · rw [if_neg h1, hm y h1]
    rw [e]; exact F₁
end
theorem fr2 {g h : Heap} {L : Addr} {m : Str → Option Value} {x1 x2 : Str} {v1 v2 : Value} (F : Fr g L h m) (h1 : m x1 = some v1) (h2 : m x2 = some v2) :
    Fr g L h (fun y => if y = x1 then some v1 else if y = x2 then some v2 else m y) := by
  have e : (fun y => if y = x1 then some v1 else if y = x2 then some v2 else m y) = m := by
    funext y
    by_cases a : y = x1
    · rw [if_pos a, a, h1]
    · rw [if_neg a]
      by_cases b : y = x2
      · rw [if_pos b, b, h2]
      · rw [if_neg b]
  rw [e]; exact F
abbrev SizeRes (v : Value) : Prop := ∃ k t, v = .int k t ∧ -1073741823 ≤ k ∧ k ≤ 1073741823
set_option maxHeartbeats 8000000 in
theorem size_ (w : World) (pl : Addr) (a b : Int) (ta tb : Tok) (rest : List (Addr × Obj)) (hoff : ∀ p ∈ rest, p.1 ≠ pl) (hp : PoolOk a b) :
    Say prog w (hd.heap_1 w.params) 633 [.ref pl] ((pl, poolO a ta b tb) :: rest) 4 32 (fun v led => SizeRes v ∧ ∃ a ta b tb, led = (pl, poolO a ta b tb) :: rest ∧ PoolOk a b) := by
  refine say_in ?_
  intro p loose mean mg mb dp un gd cn cs a ccd cl outer A₀ base h₀ L m hp₀ gn₀ dr₀ tk₀ os₀ Q E B F X N T hk hd hu hret
  w_on
  refine wpAny_call ?_
  k_dflt ktr_enter
  repeat' (first
    | (k_unfold; (try dsimp only))
    | (k_end; wrow_close)
    | ((with_reducible show wpAny _ _ (subscriptTail _ _ _ _) _ _ _); with_reducible ((k_here; (with_reducible show wpAny _ _ (subscriptTail _ _ (Value.ref _) (Value.int _ _)) _ _ _); (with_unfolding_all refine' sub_any ?k1_03_4 ?k2_03_4 ?k3_03_4 ?k4_03_4 ?kn_03_4 ?k5_03_4 ?_ ?k6_03_4; (case k1_03_4 => k_asm); (case k2_03_4 => k_mem); (case k3_03_4 => with_reducible assumption); (case k4_03_4 => with_reducible assumption); (case kn_03_4 => rfl); (case k5_03_4 => decide); (case k6_03_4 => with_unfolding_all rfl); k_whole); intro v' hv'; (try ((have h9 := ints_mem hv'); (have h8 := h9 rfl); clear h9 hv'; obtain ⟨k', t', e', hk'⟩ := h8; subst e'; simp only [List.map_cons, List.map_nil, intOf, List.mem_cons, List.not_mem_nil, or_false] at hk')))))
    | ((with_reducible show wpAny _ _ (binaryOp _ _ _) _ _ _); with_reducible (first | with_reducible refine pow_2_30 ?_ | with_reducible refine pow_10_18 ?_ | with_reducible refine pow_10_120 ?_))
    | ((with_reducible show wpAny _ _ (call _ _) _ _ _); (try k_fold); with_reducible ((k_here; (with_reducible show wpAny _ _ (call (Value.ref 626) [Value.ref _, Value.int _ _]) _ _ _); k_dflt (refine' take_use ?k1_02_0 ?k2_02_0 ?k3_02_0 ?k4_02_0 ?k5_02_0 ?kK_02_0 ?kU_02_0 ?kp_02_0 ?kn_02_0 ?km_02_0 ?kd_02_0 ?ku_02_0 ?_; (case k1_02_0 => k_asm); (case k2_02_0 => k_asm); (case k3_02_0 => k_asm); (case k4_02_0 => k_asm); (case k5_02_0 => k_asm); (case kK_02_0 => first | exact rfl | assumption); (case kU_02_0 => k_updF); (case kp_02_0 => assumption); (case kn_02_0 => decide); (case km_02_0 => decide); (case kd_02_0 => k_room); (case ku_02_0 => k_units); k_whole); intro k' t' a' ta' b' tb' h' tk' hp' k0' k1' F' N'; (try dsimp only at N'); (try k_sweep))))
    | walk1
    | (dsimp only; walk1)
    | (leave1; walk_say "STEP leave1"; try dsimp only)
    | fail "no step")
  all_goals
    exact hret _ _ _ _ (by k_asm) (cb_drop (by k_asm) (by kcf_all)) ⟨⟨_, _, rfl, by omega, by omega⟩, _, _, _, _, rfl, by assumption⟩
def SayPool (w : World) (f : Addr) (args : List Value) (pl : Addr) (dD dU : Nat) (R : Value → Prop) : Prop :=
  ∀ a b ta tb rest, (∀ p ∈ rest, p.1 ≠ pl) → PoolOk a b → Say prog w (hd.heap_1 w.params) f args ((pl, poolO a ta b tb) :: rest) dD dU (fun v led => R v ∧ ∃ a ta b tb, led = (pl, poolO a ta b tb) :: rest ∧ PoolOk a b)
/-- a call that turns the pool, wherever the pool stands in the ledger -/
theorem sayPool_use {w : World} {f : Addr} {args : List Value} {pl : Addr} {dD dU : Nat} {R : Value → Prop} {a b : Int} {ta tb : Tok} {led : List (Addr × Obj)} {g : Obj → List (Addr × Obj)} {p : Program} {loose : List Str} {mean : ExcName → Option Value} {mg mb : Str → Option Value} {dp un : Nat} {gd : Option (List Code)} {cn : Str} {cs : Scope} {ad : Addr} {ccd : Value} {cl : List (Str × Addr)} {outer : List Env} {A₀ : Around} {base h₀ : Heap} {L : Addr} {m : Str → Option Value} {hp₁ : Heap} {gn₁ : Array GenState} {dr₁ : Drawn} {tk₁ : Nat} {os₁ : OsState}
    {Q E : Value → Shared → Prop} (C : SayPool w f args pl dD dU R) (B : Below A₀ base outer h₀) (F : Fr h₀ L hp₁ m) (X : (hd.heap_1 w.params).In h₀) (N : News h₀ L hp₁ led) (T : Top p loose mean mg mb h₀) (hk : cs.kind = .function)
    (U : UpdF pl (poolO a ta b tb) led g) (hp : PoolOk a b) (hd : dp + dD < recursionLimit) (hu : un + dU < cLine)
    (ret : ∀ v a ta b tb h' tk', R v → PoolOk a b → Fr h₀ L h' m → News h₀ L h' (g (poolO a ta b tb)) → Q v (.mk h' gn₁ dr₁ tk' os₁)) :
    wpAny (model prog w) (ktrTop dp un gd cn cs L ad ccd cl outer) (call (.ref f) args) Q E (.mk hp₁ gn₁ dr₁ tk₁ os₁) := by
  obtain ⟨pre, post, e, eg, h1, h2⟩ := U.split
  subst e
  have N1 : News h₀ L hp₁ ((pl, poolO a ta b tb) :: (pre ++ post)) := fun q hq => N q (by
    rcases List.mem_cons.mp hq with rfl | hq
    · simp
    · rcases List.mem_append.mp hq with hq | hq <;> simp [hq])
  refine C a b ta tb (pre ++ post) (fun q hq => (List.mem_append.mp hq).elim (h1 q) (h2 q)) hp p loose mean mg mb dp un gd cn cs ad ccd cl outer A₀ base h₀ L m (.mk hp₁ gn₁ dr₁ tk₁ os₁) Q E B F X N1 T hk hd hu ?_
  rintro v led' h' tk' F' N' ⟨r, a', ta', b', tb', rfl, hp'⟩
  refine ret v a' ta' b' tb' h' tk' r hp' F' ?_
  rw [eg]
  exact fun q hq => N' q (by
    rcases List.mem_append.mp hq with hq | hq
    · simp [hq]
    · rcases List.mem_cons.mp hq with rfl | hq <;> simp_all)
theorem sizeP (w : World) (pl : Addr) : SayPool w 633 [.ref pl] pl 4 32 SizeRes := fun a b ta tb rest hoff hp => size_ w pl a b ta tb rest hoff hp
/-- a pure call: the ledger stays -/
def SayP (w : World) (f : Addr) (args : List Value) (dD dU : Nat) (R : Value → Prop) : Prop :=
  ∀ led, Say prog w (hd.heap_1 w.params) f args led dD dU (fun v led' => R v ∧ led' = led)
theorem sayP_use {w : World} {f : Addr} {args : List Value} {dD dU : Nat} {R : Value → Prop} {led : List (Addr × Obj)} {p : Program} {loose : List Str} {mean : ExcName → Option Value} {mg mb : Str → Option Value} {dp un : Nat} {gd : Option (List Code)} {cn : Str} {cs : Scope} {ad : Addr} {ccd : Value} {cl : List (Str × Addr)} {outer : List Env} {A₀ : Around} {base h₀ : Heap} {L : Addr} {m : Str → Option Value} {hp₁ : Heap} {gn₁ : Array GenState} {dr₁ : Drawn} {tk₁ : Nat} {os₁ : OsState}
    {Q E : Value → Shared → Prop} (C : SayP w f args dD dU R) (B : Below A₀ base outer h₀) (F : Fr h₀ L hp₁ m) (X : (hd.heap_1 w.params).In h₀) (N : News h₀ L hp₁ led) (T : Top p loose mean mg mb h₀) (hk : cs.kind = .function)
    (hd : dp + dD < recursionLimit) (hu : un + dU < cLine)
    (ret : ∀ v h' tk', R v → Fr h₀ L h' m → News h₀ L h' led → Q v (.mk h' gn₁ dr₁ tk' os₁)) :
    wpAny (model prog w) (ktrTop dp un gd cn cs L ad ccd cl outer) (call (.ref f) args) Q E (.mk hp₁ gn₁ dr₁ tk₁ os₁) := by
  refine C led p loose mean mg mb dp un gd cn cs ad ccd cl outer A₀ base h₀ L m (.mk hp₁ gn₁ dr₁ tk₁ os₁) Q E B F X N T hk hd hu ?_
  rintro v led' h' tk' F' N' ⟨r, rfl⟩
  exact ret v h' tk' r F' N'
set_option maxHeartbeats 8000000 in
theorem is_whole_ (w : World) (v lo hi : Int) (t tl th : Tok) : SayP w 89 [.int v t, .int lo tl, .int hi th] 2 16 (fun r => r = .bool (decide (lo ≤ v ∧ v ≤ hi))) := by
  unfold SayP
  intro led
  refine say_in ?_
  intro p loose mean mg mb dp un gd cn cs a ccd cl outer A₀ base h₀ L m hp₀ gn₀ dr₀ tk₀ os₀ Q E B F X N T hk hd hu hret
  w_on
  refine wpAny_call ?_
  k_dflt ktr_enter
  k_steps
  all_goals
    refine hret _ _ _ _ (by k_asm) (by k_asm) ⟨?_, rfl⟩
    (try simp only [decide_eq_true_eq, decide_eq_false_iff_not] at *)
    exact congrArg Value.bool (decide_eq_decide.mpr (by omega))
set_option maxHeartbeats 8000000 in
theorem dimen_ (w : World) (v : Int) (t : Tok) (h1 : -1073741823 ≤ v) (h2 : v ≤ 1073741823) : SayP w 110 [.int v t] 3 24 (fun r => r = .int v t) := by
  unfold SayP
  intro led
  refine say_in ?_
  intro p loose mean mg mb dp un gd cn cs a ccd cl outer A₀ base h₀ L m hp₀ gn₀ dr₀ tk₀ os₀ Q E B F X N T hk hd hu hret
  w_on
  refine wpAny_call ?_
  k_dflt ktr_enter
  k_steps
  all_goals exact hret _ _ _ _ (by k_asm) (by k_asm) ⟨rfl, rfl⟩
/-- an entry of an object's dict -/
abbrev ent (P : Params) (n : String) (t : Tok) (v : Value) : DictEntry := ⟨PyData.keyHash P (Str.ofString n), .str (Str.ofString n) t, v⟩
abbrev tupO (l : List Value) : Obj := { cls := .type "tuple", data := .seq l.toArray }
theorem tup_at {h₀ h : Heap} {L tp : Addr} {led : List (Addr × Obj)} {l : List Value} (N : News h₀ L h led) (hm : (tp, tupO l) ∈ led) : IsTup h tp l.toArray := ⟨_, N.get hm, rfl, _, rfl⟩
set_option maxHeartbeats 8000000 in
theorem mkGlue {w : World} {wd st so sk ko : Int} {t1 t2 t3 t4 t5 : Tok} {led : List (Addr × Obj)} {p : Program} {loose : List Str} {mean : ExcName → Option Value} {mg mb : Str → Option Value} {dp un : Nat} {gd : Option (List Code)} {cn : Str} {cs : Scope} {ad : Addr} {ccd : Value} {cl : List (Str × Addr)} {outer : List Env} {A₀ : Around} {base h₀ : Heap} {L : Addr} {m : Str → Option Value} {hp₁ : Heap} {gn₁ : Array GenState} {dr₁ : Drawn} {tk₁ : Nat} {os₁ : OsState}
    {Q E : Value → Shared → Prop} (B : Below A₀ base outer h₀) (F : Fr h₀ L hp₁ m) (X : (hd.heap_1 w.params).In h₀) (N : News h₀ L hp₁ led) (T : Top p loose mean mg mb h₀) (hk : cs.kind = .function)
    (hd : dp + 6 < recursionLimit) (hu : un + 60 < cLine)
    (hwd1 : -1073741823 ≤ wd) (hwd2 : wd ≤ 1073741823) (hst1 : -1073741823 ≤ st) (hst2 : st ≤ 1073741823) (hsk1 : -1073741823 ≤ sk) (hsk2 : sk ≤ 1073741823) (h7 : 0 ≤ so) (h8 : so ≤ 3) (h9 : 0 ≤ ko) (h10 : ko ≤ 3)
    (ret : ∀ (x dx : Addr) (so' ko' : Int) (b1 b2 : Tok) (a0 a1 a2 a3 a4 : Tok) h' tk', Fr h₀ L h' m → News h₀ L h' ((x, instObj 234 dx) :: (dx, dictOf [ent w.params "width" a0 (.int wd t1), ent w.params "stretch" a1 (.int st t2), ent w.params "stretch_order" a2 (.int so' b1), ent w.params "shrink" a3 (.int sk t4), ent w.params "shrink_order" a4 (.int ko' b2)] 5) :: led) → (∀ p ∈ led, p.1 < dx) → @LT.lt Nat _ dx x → (∀ p ∈ led, p.1 < x) → 0 ≤ so' → so' ≤ 3 → 0 ≤ ko' → ko' ≤ 3 → Q (.ref x) (.mk h' gn₁ dr₁ tk' os₁)) :
    wpAny (model prog w) (ktrTop dp un gd cn cs L ad ccd cl outer) (call (.ref 234) [.int wd t1, .int st t2, .int so t3, .int sk t4, .int ko t5]) Q E (.mk hp₁ gn₁ dr₁ tk₁ os₁) := by
  w_on
  k_dflt (refine' call_cls ?k1 ?k2 ?k3 ?k4 ?k5 ?k6 ?_; (case k1 => k_asm); (case k2 => k_asm); (case k3 => k_asm); (case k4 => k_is); (case k5 => k_is); (case k6 => k_is); k_whole; intro x' d' h' F' N' l1 l2; (have l1A := l1); (have l2A : @LT.lt Nat _ d' x' := l2); (try k_lt l1); (try k_lt2 l2); (try k_sweep); ktr_enter)
  repeat' (first
    | (k_unfold; (try dsimp only))
    | (k_end; wrow_close)
    | ((with_reducible show wpAny _ _ (call _ _) _ _ _); (try k_fold); first
      | with_reducible ((k_here; (with_reducible show wpAny _ _ (call (Value.type "tuple") [Value.ref _]) _ _ _); k_dflt (refine' call_tuple_tup ?t_06_0 ?_; (case t_06_0 => (refine' tup_at ?n_06_0 ?m_06_0; (case n_06_0 => k_asm); (case m_06_0 => k_mem))); k_whole)))
      | with_reducible ((k_here; (with_reducible show wpAny _ _ (call (Value.ref 110) [Value.int _ _]) _ _ _); k_dflt (refine' sayP_use (dimen_ _ _ _ ?h1_05_1 ?h2_05_1) ?k1_05_1 ?k2_05_1 ?k3_05_1 ?k4_05_1 ?k5_05_1 ?kK_05_1 ?kd_05_1 ?ku_05_1 ?_; (case h1_05_1 => first | assumption | omega); (case h2_05_1 => first | assumption | omega); (case k1_05_1 => k_asm); (case k2_05_1 => k_asm); (case k3_05_1 => k_asm); (case k4_05_1 => k_asm); (case k5_05_1 => k_asm); (case kK_05_1 => first | exact rfl | assumption); (case kd_05_1 => k_room); (case ku_05_1 => k_units); k_whole); intro v' h' tk' e' F' N'; subst e'; (try k_sweep)))
      | with_reducible ((k_here; (with_reducible show wpAny _ _ (call (Value.ref 89) [Value.int _ _, Value.int _ _, Value.int _ _]) _ _ _); k_dflt (refine' sayP_use (is_whole_ _ _ _ _ _ _ _) ?k1_05_0 ?k2_05_0 ?k3_05_0 ?k4_05_0 ?k5_05_0 ?kK_05_0 ?kd_05_0 ?ku_05_0 ?_; (case k1_05_0 => k_asm); (case k2_05_0 => k_asm); (case k3_05_0 => k_asm); (case k4_05_0 => k_asm); (case k5_05_0 => k_asm); (case kK_05_0 => first | exact rfl | assumption); (case kd_05_0 => k_room); (case ku_05_0 => k_units); k_whole); intro v' h' tk' e' F' N'; subst e'; (try k_sweep))))
    | ((fail_if_success (with_reducible show wpAny _ _ _ _ _ _)); with_reducible (first | (dsimp only [TupEnd]; k_dflt (refine' ⟨_, _, _, ?ta_03_2, ?tb_03_2, ?tc_03_2, ?td_03_2⟩; (case ta_03_2 => exact rfl); (case tb_03_2 => assumption); (case tc_03_2 => assumption); (case td_03_2 => (intro z hz; first | rfl | simp [hz])))) | dsimp only [TupEnd]))
    | ((with_reducible show wpAny _ _ (pyIter _) _ _ _); with_reducible ((k_here; (with_reducible show wpAny _ _ (pyIter (Value.ref _)) (fun it s₂ => LoopAtV _ _ _ _ _ _ _ _ _ it s₂) _ _); (with_unfolding_all refine' tup_plain ?k0_03_1 ?k1_03_1 ?k2_03_1 ?k3_03_1 ?k4_03_1 ?k5_03_1 ?kt_03_1 ?kn_03_1; (case k0_03_1 => rfl); (case k1_03_1 => k_asm); (case k2_03_1 => k_asm); (case k3_03_1 => k_mem); (case k4_03_1 => rfl); (case k5_03_1 => rfl)); (case' kn_03_1 => (intro u' h' tk' F' N'; (try k_sweep); (try k_fold))); (case' kt_03_1 => (intro v' h' tk' own' hv' F' N'; (try simp only [List.cons_append] at N'); simp only [List.mem_cons, List.not_mem_nil, or_false] at hv'; rcases hv' with hv' | hv' | hv' <;> (subst hv'; (try k_fold)))))))
    | ((with_reducible show wpAny _ _ (exec (Stmt.For _ _ _ _ _) _) _ _ _); with_reducible ((k_here; (rename Fr _ _ _ _ => lF'); (with_unfolding_all refine' For_invVF lF' ?k1_03_0 ?k2_03_0 ?_; (case k1_03_0 => exact rfl); (case k2_03_0 => exact rfl); k_whole))))
    | walk1
    | (dsimp only; walk1)
    | (leave1; walk_say "STEP leave1"; try dsimp only)
    | fail "no step")
  all_goals first | exact ret _ _ _ _ _ _ _ _ _ _ _ _ _ (by k_asm) (by k_asm) (by assumption) (by assumption) (fun q hq => Nat.lt_trans (l1A q hq) l2A) (by omega) (by omega) (by omega) (by omega) | (exfalso; simp only [decide_eq_true_eq, decide_eq_false_iff_not] at *; omega)
set_option maxHeartbeats 8000000 in
theorem mkKern {w : World} {wd so : Int} {t1 t2 : Tok} {led : List (Addr × Obj)} {p : Program} {loose : List Str} {mean : ExcName → Option Value} {mg mb : Str → Option Value} {dp un : Nat} {gd : Option (List Code)} {cn : Str} {cs : Scope} {ad : Addr} {ccd : Value} {cl : List (Str × Addr)} {outer : List Env} {A₀ : Around} {base h₀ : Heap} {L : Addr} {m : Str → Option Value} {hp₁ : Heap} {gn₁ : Array GenState} {dr₁ : Drawn} {tk₁ : Nat} {os₁ : OsState}
    {Q E : Value → Shared → Prop} (B : Below A₀ base outer h₀) (F : Fr h₀ L hp₁ m) (X : (hd.heap_1 w.params).In h₀) (N : News h₀ L hp₁ led) (T : Top p loose mean mg mb h₀) (hk : cs.kind = .function)
    (hd : dp + 6 < recursionLimit) (hu : un + 60 < cLine)
    (hwd1 : -1073741823 ≤ wd) (hwd2 : wd ≤ 1073741823) (h7 : 0 ≤ so) (h8 : so ≤ 3)
    (ret : ∀ (x dx : Addr)  (a0 a1 : Tok) h' tk', Fr h₀ L h' m → News h₀ L h' ((x, instObj 384 dx) :: (dx, dictOf [ent w.params "width" a0 (.int wd t1), ent w.params "sort" a1 (.int so t2)] 2) :: led) → (∀ p ∈ led, p.1 < dx) → @LT.lt Nat _ dx x → (∀ p ∈ led, p.1 < x) → Q (.ref x) (.mk h' gn₁ dr₁ tk' os₁)) :
    wpAny (model prog w) (ktrTop dp un gd cn cs L ad ccd cl outer) (call (.ref 384) [.int wd t1, .int so t2]) Q E (.mk hp₁ gn₁ dr₁ tk₁ os₁) := by
  w_on
  k_dflt (refine' call_cls ?k1 ?k2 ?k3 ?k4 ?k5 ?k6 ?_; (case k1 => k_asm); (case k2 => k_asm); (case k3 => k_asm); (case k4 => k_is); (case k5 => k_is); (case k6 => k_is); k_whole; intro x' d' h' F' N' l1 l2; (have l1A := l1); (have l2A : @LT.lt Nat _ d' x' := l2); (try k_lt l1); (try k_lt2 l2); (try k_sweep); ktr_enter)
  repeat' (first
    | (k_unfold; (try dsimp only))
    | (k_end; wrow_close)
    | ((with_reducible show wpAny _ _ (call _ _) _ _ _); (try k_fold); first
      | with_reducible ((k_here; (with_reducible show wpAny _ _ (call (Value.type "tuple") [Value.ref _]) _ _ _); k_dflt (refine' call_tuple_tup ?t_06_0 ?_; (case t_06_0 => (refine' tup_at ?n_06_0 ?m_06_0; (case n_06_0 => k_asm); (case m_06_0 => k_mem))); k_whole)))
      | with_reducible ((k_here; (with_reducible show wpAny _ _ (call (Value.ref 110) [Value.int _ _]) _ _ _); k_dflt (refine' sayP_use (dimen_ _ _ _ ?h1_05_1 ?h2_05_1) ?k1_05_1 ?k2_05_1 ?k3_05_1 ?k4_05_1 ?k5_05_1 ?kK_05_1 ?kd_05_1 ?ku_05_1 ?_; (case h1_05_1 => first | assumption | omega); (case h2_05_1 => first | assumption | omega); (case k1_05_1 => k_asm); (case k2_05_1 => k_asm); (case k3_05_1 => k_asm); (case k4_05_1 => k_asm); (case k5_05_1 => k_asm); (case kK_05_1 => first | exact rfl | assumption); (case kd_05_1 => k_room); (case ku_05_1 => k_units); k_whole); intro v' h' tk' e' F' N'; subst e'; (try k_sweep)))
      | with_reducible ((k_here; (with_reducible show wpAny _ _ (call (Value.ref 89) [Value.int _ _, Value.int _ _, Value.int _ _]) _ _ _); k_dflt (refine' sayP_use (is_whole_ _ _ _ _ _ _ _) ?k1_05_0 ?k2_05_0 ?k3_05_0 ?k4_05_0 ?k5_05_0 ?kK_05_0 ?kd_05_0 ?ku_05_0 ?_; (case k1_05_0 => k_asm); (case k2_05_0 => k_asm); (case k3_05_0 => k_asm); (case k4_05_0 => k_asm); (case k5_05_0 => k_asm); (case kK_05_0 => first | exact rfl | assumption); (case kd_05_0 => k_room); (case ku_05_0 => k_units); k_whole); intro v' h' tk' e' F' N'; subst e'; (try k_sweep))))
    | ((fail_if_success (with_reducible show wpAny _ _ _ _ _ _)); with_reducible (first | (dsimp only [TupEnd]; k_dflt (refine' ⟨_, _, _, ?ta_03_2, ?tb_03_2, ?tc_03_2, ?td_03_2⟩; (case ta_03_2 => exact rfl); (case tb_03_2 => assumption); (case tc_03_2 => assumption); (case td_03_2 => (intro z hz; first | rfl | simp [hz])))) | dsimp only [TupEnd]))
    | ((with_reducible show wpAny _ _ (pyIter _) _ _ _); with_reducible ((k_here; (with_reducible show wpAny _ _ (pyIter (Value.ref _)) (fun it s₂ => LoopAtV _ _ _ _ _ _ _ _ _ it s₂) _ _); (with_unfolding_all refine' tup_plain ?k0_03_1 ?k1_03_1 ?k2_03_1 ?k3_03_1 ?k4_03_1 ?k5_03_1 ?kt_03_1 ?kn_03_1; (case k0_03_1 => rfl); (case k1_03_1 => k_asm); (case k2_03_1 => k_asm); (case k3_03_1 => k_mem); (case k4_03_1 => rfl); (case k5_03_1 => rfl)); (case' kn_03_1 => (intro u' h' tk' F' N'; (try k_sweep); (try k_fold))); (case' kt_03_1 => (intro v' h' tk' own' hv' F' N'; (try simp only [List.cons_append] at N'); simp only [List.mem_cons, List.not_mem_nil, or_false] at hv'; rcases hv' with hv' | hv' | hv' <;> (subst hv'; (try k_fold)))))))
    | ((with_reducible show wpAny _ _ (exec (Stmt.For _ _ _ _ _) _) _ _ _); with_reducible ((k_here; (rename Fr _ _ _ _ => lF'); (with_unfolding_all refine' For_invVF lF' ?k1_03_0 ?k2_03_0 ?_; (case k1_03_0 => exact rfl); (case k2_03_0 => exact rfl); k_whole))))
    | walk1
    | (dsimp only; walk1)
    | (leave1; walk_say "STEP leave1"; try dsimp only)
    | fail "no step")
  all_goals first | exact ret _ _ _ _ _ _ (by k_asm) (by k_asm) (by assumption) (by assumption) (fun q hq => Nat.lt_trans (l1A q hq) l2A)  | (exfalso; simp only [decide_eq_true_eq, decide_eq_false_iff_not] at *; omega)
set_option maxHeartbeats 8000000 in
theorem mkPenalty {w : World} {v : Int} {t1 : Tok} {led : List (Addr × Obj)} {p : Program} {loose : List Str} {mean : ExcName → Option Value} {mg mb : Str → Option Value} {dp un : Nat} {gd : Option (List Code)} {cn : Str} {cs : Scope} {ad : Addr} {ccd : Value} {cl : List (Str × Addr)} {outer : List Env} {A₀ : Around} {base h₀ : Heap} {L : Addr} {m : Str → Option Value} {hp₁ : Heap} {gn₁ : Array GenState} {dr₁ : Drawn} {tk₁ : Nat} {os₁ : OsState}
    {Q E : Value → Shared → Prop} (B : Below A₀ base outer h₀) (F : Fr h₀ L hp₁ m) (X : (hd.heap_1 w.params).In h₀) (N : News h₀ L hp₁ led) (T : Top p loose mean mg mb h₀) (hk : cs.kind = .function)
    (hd : dp + 6 < recursionLimit) (hu : un + 60 < cLine)
    (hv1 : -1073741823 ≤ v) (hv2 : v ≤ 1073741823)
    (ret : ∀ (x dx : Addr)  (a0 : Tok) h' tk', Fr h₀ L h' m → News h₀ L h' ((x, instObj 427 dx) :: (dx, dictOf [ent w.params "value" a0 (.int v t1)] 1) :: led) → (∀ p ∈ led, p.1 < dx) → @LT.lt Nat _ dx x → (∀ p ∈ led, p.1 < x) → Q (.ref x) (.mk h' gn₁ dr₁ tk' os₁)) :
    wpAny (model prog w) (ktrTop dp un gd cn cs L ad ccd cl outer) (call (.ref 427) [.int v t1]) Q E (.mk hp₁ gn₁ dr₁ tk₁ os₁) := by
  w_on
  k_dflt (refine' call_cls ?k1 ?k2 ?k3 ?k4 ?k5 ?k6 ?_; (case k1 => k_asm); (case k2 => k_asm); (case k3 => k_asm); (case k4 => k_is); (case k5 => k_is); (case k6 => k_is); k_whole; intro x' d' h' F' N' l1 l2; (have l1A := l1); (have l2A : @LT.lt Nat _ d' x' := l2); (try k_lt l1); (try k_lt2 l2); (try k_sweep); ktr_enter)
  repeat' (first
    | (k_unfold; (try dsimp only))
    | (k_end; wrow_close)
    | ((with_reducible show wpAny _ _ (call _ _) _ _ _); (try k_fold); first
      | with_reducible ((k_here; (with_reducible show wpAny _ _ (call (Value.type "tuple") [Value.ref _]) _ _ _); k_dflt (refine' call_tuple_tup ?t_06_0 ?_; (case t_06_0 => (refine' tup_at ?n_06_0 ?m_06_0; (case n_06_0 => k_asm); (case m_06_0 => k_mem))); k_whole)))
      | with_reducible ((k_here; (with_reducible show wpAny _ _ (call (Value.ref 110) [Value.int _ _]) _ _ _); k_dflt (refine' sayP_use (dimen_ _ _ _ ?h1_05_1 ?h2_05_1) ?k1_05_1 ?k2_05_1 ?k3_05_1 ?k4_05_1 ?k5_05_1 ?kK_05_1 ?kd_05_1 ?ku_05_1 ?_; (case h1_05_1 => first | assumption | omega); (case h2_05_1 => first | assumption | omega); (case k1_05_1 => k_asm); (case k2_05_1 => k_asm); (case k3_05_1 => k_asm); (case k4_05_1 => k_asm); (case k5_05_1 => k_asm); (case kK_05_1 => first | exact rfl | assumption); (case kd_05_1 => k_room); (case ku_05_1 => k_units); k_whole); intro v' h' tk' e' F' N'; subst e'; (try k_sweep)))
      | with_reducible ((k_here; (with_reducible show wpAny _ _ (call (Value.ref 89) [Value.int _ _, Value.int _ _, Value.int _ _]) _ _ _); k_dflt (refine' sayP_use (is_whole_ _ _ _ _ _ _ _) ?k1_05_0 ?k2_05_0 ?k3_05_0 ?k4_05_0 ?k5_05_0 ?kK_05_0 ?kd_05_0 ?ku_05_0 ?_; (case k1_05_0 => k_asm); (case k2_05_0 => k_asm); (case k3_05_0 => k_asm); (case k4_05_0 => k_asm); (case k5_05_0 => k_asm); (case kK_05_0 => first | exact rfl | assumption); (case kd_05_0 => k_room); (case ku_05_0 => k_units); k_whole); intro v' h' tk' e' F' N'; subst e'; (try k_sweep))))
    | ((fail_if_success (with_reducible show wpAny _ _ _ _ _ _)); with_reducible (first | (dsimp only [TupEnd]; k_dflt (refine' ⟨_, _, _, ?ta_03_2, ?tb_03_2, ?tc_03_2, ?td_03_2⟩; (case ta_03_2 => exact rfl); (case tb_03_2 => assumption); (case tc_03_2 => assumption); (case td_03_2 => (intro z hz; first | rfl | simp [hz])))) | dsimp only [TupEnd]))
    | ((with_reducible show wpAny _ _ (pyIter _) _ _ _); with_reducible ((k_here; (with_reducible show wpAny _ _ (pyIter (Value.ref _)) (fun it s₂ => LoopAtV _ _ _ _ _ _ _ _ _ it s₂) _ _); (with_unfolding_all refine' tup_plain ?k0_03_1 ?k1_03_1 ?k2_03_1 ?k3_03_1 ?k4_03_1 ?k5_03_1 ?kt_03_1 ?kn_03_1; (case k0_03_1 => rfl); (case k1_03_1 => k_asm); (case k2_03_1 => k_asm); (case k3_03_1 => k_mem); (case k4_03_1 => rfl); (case k5_03_1 => rfl)); (case' kn_03_1 => (intro u' h' tk' F' N'; (try k_sweep); (try k_fold))); (case' kt_03_1 => (intro v' h' tk' own' hv' F' N'; (try simp only [List.cons_append] at N'); simp only [List.mem_cons, List.not_mem_nil, or_false] at hv'; rcases hv' with hv' | hv' | hv' <;> (subst hv'; (try k_fold)))))))
    | ((with_reducible show wpAny _ _ (exec (Stmt.For _ _ _ _ _) _) _ _ _); with_reducible ((k_here; (rename Fr _ _ _ _ => lF'); (with_unfolding_all refine' For_invVF lF' ?k1_03_0 ?k2_03_0 ?_; (case k1_03_0 => exact rfl); (case k2_03_0 => exact rfl); k_whole))))
    | walk1
    | (dsimp only; walk1)
    | (leave1; walk_say "STEP leave1"; try dsimp only)
    | fail "no step")
  all_goals first | exact ret _ _ _ _ _ (by k_asm) (by k_asm) (by assumption) (by assumption) (fun q hq => Nat.lt_trans (l1A q hq) l2A)  | (exfalso; simp only [decide_eq_true_eq, decide_eq_false_iff_not] at *; omega)
set_option maxHeartbeats 8000000 in
theorem mkMark {w : World} {tp q : Addr} {led : List (Addr × Obj)} {p : Program} {loose : List Str} {mean : ExcName → Option Value} {mg mb : Str → Option Value} {dp un : Nat} {gd : Option (List Code)} {cn : Str} {cs : Scope} {ad : Addr} {ccd : Value} {cl : List (Str × Addr)} {outer : List Env} {A₀ : Around} {base h₀ : Heap} {L : Addr} {m : Str → Option Value} {hp₁ : Heap} {gn₁ : Array GenState} {dr₁ : Drawn} {tk₁ : Nat} {os₁ : OsState}
    {Q E : Value → Shared → Prop} (B : Below A₀ base outer h₀) (F : Fr h₀ L hp₁ m) (X : (hd.heap_1 w.params).In h₀) (N : News h₀ L hp₁ led) (T : Top p loose mean mg mb h₀) (hk : cs.kind = .function)
    (hd : dp + 6 < recursionLimit) (hu : un + 60 < cLine)
    (hm : (tp, tupO [.ref q]) ∈ led)
    (ret : ∀ (x dx : Addr)  (a0 : Tok) h' tk', Fr h₀ L h' m → News h₀ L h' ((x, instObj 448 dx) :: (dx, dictOf [ent w.params "tokens" a0 (.ref tp)] 1) :: led) → (∀ p ∈ led, p.1 < dx) → @LT.lt Nat _ dx x → (∀ p ∈ led, p.1 < x) → Q (.ref x) (.mk h' gn₁ dr₁ tk' os₁)) :
    wpAny (model prog w) (ktrTop dp un gd cn cs L ad ccd cl outer) (call (.ref 448) [.ref tp]) Q E (.mk hp₁ gn₁ dr₁ tk₁ os₁) := by
  w_on
  k_dflt (refine' call_cls ?k1 ?k2 ?k3 ?k4 ?k5 ?k6 ?_; (case k1 => k_asm); (case k2 => k_asm); (case k3 => k_asm); (case k4 => k_is); (case k5 => k_is); (case k6 => k_is); k_whole; intro x' d' h' F' N' l1 l2; (have l1A := l1); (have l2A : @LT.lt Nat _ d' x' := l2); (try k_lt l1); (try k_lt2 l2); (try k_sweep); ktr_enter)
  repeat' (first
    | (k_unfold; (try dsimp only))
    | (k_end; wrow_close)
    | ((with_reducible show wpAny _ _ (call _ _) _ _ _); (try k_fold); first
      | with_reducible ((k_here; (with_reducible show wpAny _ _ (call (Value.type "tuple") [Value.ref _]) _ _ _); k_dflt (refine' call_tuple_tup ?t_06_0 ?_; (case t_06_0 => (refine' tup_at ?n_06_0 ?m_06_0; (case n_06_0 => k_asm); (case m_06_0 => k_mem))); k_whole)))
      | with_reducible ((k_here; (with_reducible show wpAny _ _ (call (Value.ref 110) [Value.int _ _]) _ _ _); k_dflt (refine' sayP_use (dimen_ _ _ _ ?h1_05_1 ?h2_05_1) ?k1_05_1 ?k2_05_1 ?k3_05_1 ?k4_05_1 ?k5_05_1 ?kK_05_1 ?kd_05_1 ?ku_05_1 ?_; (case h1_05_1 => first | assumption | omega); (case h2_05_1 => first | assumption | omega); (case k1_05_1 => k_asm); (case k2_05_1 => k_asm); (case k3_05_1 => k_asm); (case k4_05_1 => k_asm); (case k5_05_1 => k_asm); (case kK_05_1 => first | exact rfl | assumption); (case kd_05_1 => k_room); (case ku_05_1 => k_units); k_whole); intro v' h' tk' e' F' N'; subst e'; (try k_sweep)))
      | with_reducible ((k_here; (with_reducible show wpAny _ _ (call (Value.ref 89) [Value.int _ _, Value.int _ _, Value.int _ _]) _ _ _); k_dflt (refine' sayP_use (is_whole_ _ _ _ _ _ _ _) ?k1_05_0 ?k2_05_0 ?k3_05_0 ?k4_05_0 ?k5_05_0 ?kK_05_0 ?kd_05_0 ?ku_05_0 ?_; (case k1_05_0 => k_asm); (case k2_05_0 => k_asm); (case k3_05_0 => k_asm); (case k4_05_0 => k_asm); (case k5_05_0 => k_asm); (case kK_05_0 => first | exact rfl | assumption); (case kd_05_0 => k_room); (case ku_05_0 => k_units); k_whole); intro v' h' tk' e' F' N'; subst e'; (try k_sweep))))
    | ((fail_if_success (with_reducible show wpAny _ _ _ _ _ _)); with_reducible (first | (dsimp only [TupEnd]; k_dflt (refine' ⟨_, _, _, ?ta_03_2, ?tb_03_2, ?tc_03_2, ?td_03_2⟩; (case ta_03_2 => exact rfl); (case tb_03_2 => assumption); (case tc_03_2 => assumption); (case td_03_2 => (intro z hz; first | rfl | simp [hz])))) | dsimp only [TupEnd]))
    | ((with_reducible show wpAny _ _ (pyIter _) _ _ _); with_reducible ((k_here; (with_reducible show wpAny _ _ (pyIter (Value.ref _)) (fun it s₂ => LoopAtV _ _ _ _ _ _ _ _ _ it s₂) _ _); (with_unfolding_all refine' tup_plain ?k0_03_1 ?k1_03_1 ?k2_03_1 ?k3_03_1 ?k4_03_1 ?k5_03_1 ?kt_03_1 ?kn_03_1; (case k0_03_1 => rfl); (case k1_03_1 => k_asm); (case k2_03_1 => k_asm); (case k3_03_1 => k_mem); (case k4_03_1 => rfl); (case k5_03_1 => rfl)); (case' kn_03_1 => (intro u' h' tk' F' N'; (try k_sweep); (try k_fold))); (case' kt_03_1 => (intro v' h' tk' own' hv' F' N'; (try simp only [List.cons_append] at N'); simp only [List.mem_cons, List.not_mem_nil, or_false] at hv'; rcases hv' with hv' | hv' | hv' <;> (subst hv'; (try k_fold)))))))
    | ((with_reducible show wpAny _ _ (exec (Stmt.For _ _ _ _ _) _) _ _ _); with_reducible ((k_here; (rename Fr _ _ _ _ => lF'); (with_unfolding_all refine' For_invVF lF' ?k1_03_0 ?k2_03_0 ?_; (case k1_03_0 => exact rfl); (case k2_03_0 => exact rfl); k_whole))))
    | walk1
    | (dsimp only; walk1)
    | (leave1; walk_say "STEP leave1"; try dsimp only)
    | fail "no step")
  all_goals first | exact ret _ _ _ _ _ (by k_asm) (by k_asm) (by assumption) (by assumption) (fun q hq => Nat.lt_trans (l1A q hq) l2A)  | (exfalso; simp only [decide_eq_true_eq, decide_eq_false_iff_not] at *; omega)
set_option maxHeartbeats 8000000 in
theorem mkSkip {w : World} {g : Addr} {t1 : Tok} {led : List (Addr × Obj)} {p : Program} {loose : List Str} {mean : ExcName → Option Value} {mg mb : Str → Option Value} {dp un : Nat} {gd : Option (List Code)} {cn : Str} {cs : Scope} {ad : Addr} {ccd : Value} {cl : List (Str × Addr)} {outer : List Env} {A₀ : Around} {base h₀ : Heap} {L : Addr} {m : Str → Option Value} {hp₁ : Heap} {gn₁ : Array GenState} {dr₁ : Drawn} {tk₁ : Nat} {os₁ : OsState}
    {Q E : Value → Shared → Prop} (B : Below A₀ base outer h₀) (F : Fr h₀ L hp₁ m) (X : (hd.heap_1 w.params).In h₀) (N : News h₀ L hp₁ led) (T : Top p loose mean mg mb h₀) (hk : cs.kind = .function)
    (hd : dp + 6 < recursionLimit) (hu : un + 60 < cLine)
    
    (ret : ∀ (x dx : Addr)  (a0 a1 a2 : Tok) h' tk', Fr h₀ L h' m → News h₀ L h' ((x, instObj 406 dx) :: (dx, dictOf [ent w.params "glue" a0 (.ref g), ent w.params "sort" a1 (.int 0 t1), ent w.params "leader" a2 (.none)] 3) :: led) → (∀ p ∈ led, p.1 < dx) → @LT.lt Nat _ dx x → (∀ p ∈ led, p.1 < x) → Q (.ref x) (.mk h' gn₁ dr₁ tk' os₁)) :
    wpAny (model prog w) (ktrTop dp un gd cn cs L ad ccd cl outer) (call (.ref 406) [.ref g, .int 0 t1]) Q E (.mk hp₁ gn₁ dr₁ tk₁ os₁) := by
  w_on
  k_dflt (refine' call_cls ?k1 ?k2 ?k3 ?k4 ?k5 ?k6 ?_; (case k1 => k_asm); (case k2 => k_asm); (case k3 => k_asm); (case k4 => k_is); (case k5 => k_is); (case k6 => k_is); k_whole; intro x' d' h' F' N' l1 l2; (have l1A := l1); (have l2A : @LT.lt Nat _ d' x' := l2); (try k_lt l1); (try k_lt2 l2); (try k_sweep); ktr_enter)
  repeat' (first
    | (k_unfold; (try dsimp only))
    | (k_end; wrow_close)
    | ((with_reducible show wpAny _ _ (call _ _) _ _ _); (try k_fold); first
      | with_reducible ((k_here; (with_reducible show wpAny _ _ (call (Value.type "tuple") [Value.ref _]) _ _ _); k_dflt (refine' call_tuple_tup ?t_06_0 ?_; (case t_06_0 => (refine' tup_at ?n_06_0 ?m_06_0; (case n_06_0 => k_asm); (case m_06_0 => k_mem))); k_whole)))
      | with_reducible ((k_here; (with_reducible show wpAny _ _ (call (Value.ref 110) [Value.int _ _]) _ _ _); k_dflt (refine' sayP_use (dimen_ _ _ _ ?h1_05_1 ?h2_05_1) ?k1_05_1 ?k2_05_1 ?k3_05_1 ?k4_05_1 ?k5_05_1 ?kK_05_1 ?kd_05_1 ?ku_05_1 ?_; (case h1_05_1 => first | assumption | omega); (case h2_05_1 => first | assumption | omega); (case k1_05_1 => k_asm); (case k2_05_1 => k_asm); (case k3_05_1 => k_asm); (case k4_05_1 => k_asm); (case k5_05_1 => k_asm); (case kK_05_1 => first | exact rfl | assumption); (case kd_05_1 => k_room); (case ku_05_1 => k_units); k_whole); intro v' h' tk' e' F' N'; subst e'; (try k_sweep)))
      | with_reducible ((k_here; (with_reducible show wpAny _ _ (call (Value.ref 89) [Value.int _ _, Value.int _ _, Value.int _ _]) _ _ _); k_dflt (refine' sayP_use (is_whole_ _ _ _ _ _ _ _) ?k1_05_0 ?k2_05_0 ?k3_05_0 ?k4_05_0 ?k5_05_0 ?kK_05_0 ?kd_05_0 ?ku_05_0 ?_; (case k1_05_0 => k_asm); (case k2_05_0 => k_asm); (case k3_05_0 => k_asm); (case k4_05_0 => k_asm); (case k5_05_0 => k_asm); (case kK_05_0 => first | exact rfl | assumption); (case kd_05_0 => k_room); (case ku_05_0 => k_units); k_whole); intro v' h' tk' e' F' N'; subst e'; (try k_sweep))))
    | ((fail_if_success (with_reducible show wpAny _ _ _ _ _ _)); with_reducible (first | (dsimp only [TupEnd]; k_dflt (refine' ⟨_, _, _, ?ta_03_2, ?tb_03_2, ?tc_03_2, ?td_03_2⟩; (case ta_03_2 => exact rfl); (case tb_03_2 => assumption); (case tc_03_2 => assumption); (case td_03_2 => (intro z hz; first | rfl | simp [hz])))) | dsimp only [TupEnd]))
    | ((with_reducible show wpAny _ _ (pyIter _) _ _ _); with_reducible ((k_here; (with_reducible show wpAny _ _ (pyIter (Value.ref _)) (fun it s₂ => LoopAtV _ _ _ _ _ _ _ _ _ it s₂) _ _); (with_unfolding_all refine' tup_plain ?k0_03_1 ?k1_03_1 ?k2_03_1 ?k3_03_1 ?k4_03_1 ?k5_03_1 ?kt_03_1 ?kn_03_1; (case k0_03_1 => rfl); (case k1_03_1 => k_asm); (case k2_03_1 => k_asm); (case k3_03_1 => k_mem); (case k4_03_1 => rfl); (case k5_03_1 => rfl)); (case' kn_03_1 => (intro u' h' tk' F' N'; (try k_sweep); (try k_fold))); (case' kt_03_1 => (intro v' h' tk' own' hv' F' N'; (try simp only [List.cons_append] at N'); simp only [List.mem_cons, List.not_mem_nil, or_false] at hv'; rcases hv' with hv' | hv' | hv' <;> (subst hv'; (try k_fold)))))))
    | ((with_reducible show wpAny _ _ (exec (Stmt.For _ _ _ _ _) _) _ _ _); with_reducible ((k_here; (rename Fr _ _ _ _ => lF'); (with_unfolding_all refine' For_invVF lF' ?k1_03_0 ?k2_03_0 ?_; (case k1_03_0 => exact rfl); (case k2_03_0 => exact rfl); k_whole))))
    | walk1
    | (dsimp only; walk1)
    | (leave1; walk_say "STEP leave1"; try dsimp only)
    | fail "no step")
  all_goals first | exact ret _ _ _ _ _ _ _ (by k_asm) (by k_asm) (by assumption) (by assumption) (fun q hq => Nat.lt_trans (l1A q hq) l2A)  | (exfalso; simp only [decide_eq_true_eq, decide_eq_false_iff_not] at *; omega)
set_option maxHeartbeats 8000000 in
theorem mkRuleN {w : World} {h d : Int} {t1 t2 : Tok} {led : List (Addr × Obj)} {p : Program} {loose : List Str} {mean : ExcName → Option Value} {mg mb : Str → Option Value} {dp un : Nat} {gd : Option (List Code)} {cn : Str} {cs : Scope} {ad : Addr} {ccd : Value} {cl : List (Str × Addr)} {outer : List Env} {A₀ : Around} {base h₀ : Heap} {L : Addr} {m : Str → Option Value} {hp₁ : Heap} {gn₁ : Array GenState} {dr₁ : Drawn} {tk₁ : Nat} {os₁ : OsState}
    {Q E : Value → Shared → Prop} (B : Below A₀ base outer h₀) (F : Fr h₀ L hp₁ m) (X : (hd.heap_1 w.params).In h₀) (N : News h₀ L hp₁ led) (T : Top p loose mean mg mb h₀) (hk : cs.kind = .function)
    (hd : dp + 6 < recursionLimit) (hu : un + 60 < cLine)
    (hh1 : -1073741823 ≤ h) (hh2 : h ≤ 1073741823) (hd1 : -1073741823 ≤ d) (hd2 : d ≤ 1073741823)
    (ret : ∀ (x dx : Addr)  (a0 a1 a2 : Tok) h' tk', Fr h₀ L h' m → News h₀ L h' ((x, instObj 363 dx) :: (dx, dictOf [ent w.params "width" a0 (.none), ent w.params "height" a1 (.int h t1), ent w.params "depth" a2 (.int d t2)] 3) :: led) → (∀ p ∈ led, p.1 < dx) → @LT.lt Nat _ dx x → (∀ p ∈ led, p.1 < x) → Q (.ref x) (.mk h' gn₁ dr₁ tk' os₁)) :
    wpAny (model prog w) (ktrTop dp un gd cn cs L ad ccd cl outer) (call (.ref 363) [.none, .int h t1, .int d t2]) Q E (.mk hp₁ gn₁ dr₁ tk₁ os₁) := by
  w_on
  k_dflt (refine' call_cls ?k1 ?k2 ?k3 ?k4 ?k5 ?k6 ?_; (case k1 => k_asm); (case k2 => k_asm); (case k3 => k_asm); (case k4 => k_is); (case k5 => k_is); (case k6 => k_is); k_whole; intro x' d' h' F' N' l1 l2; (have l1A := l1); (have l2A : @LT.lt Nat _ d' x' := l2); (try k_lt l1); (try k_lt2 l2); (try k_sweep); ktr_enter)
  repeat' (first
    | (k_unfold; (try dsimp only))
    | (k_end; wrow_close)
    | ((with_reducible show wpAny _ _ (call _ _) _ _ _); (try k_fold); first
      | with_reducible ((k_here; (with_reducible show wpAny _ _ (call (Value.type "tuple") [Value.ref _]) _ _ _); k_dflt (refine' call_tuple_tup ?t_06_0 ?_; (case t_06_0 => (refine' tup_at ?n_06_0 ?m_06_0; (case n_06_0 => k_asm); (case m_06_0 => k_mem))); k_whole)))
      | with_reducible ((k_here; (with_reducible show wpAny _ _ (call (Value.ref 110) [Value.int _ _]) _ _ _); k_dflt (refine' sayP_use (dimen_ _ _ _ ?h1_05_1 ?h2_05_1) ?k1_05_1 ?k2_05_1 ?k3_05_1 ?k4_05_1 ?k5_05_1 ?kK_05_1 ?kd_05_1 ?ku_05_1 ?_; (case h1_05_1 => first | assumption | omega); (case h2_05_1 => first | assumption | omega); (case k1_05_1 => k_asm); (case k2_05_1 => k_asm); (case k3_05_1 => k_asm); (case k4_05_1 => k_asm); (case k5_05_1 => k_asm); (case kK_05_1 => first | exact rfl | assumption); (case kd_05_1 => k_room); (case ku_05_1 => k_units); k_whole); intro v' h' tk' e' F' N'; subst e'; (try k_sweep)))
      | with_reducible ((k_here; (with_reducible show wpAny _ _ (call (Value.ref 89) [Value.int _ _, Value.int _ _, Value.int _ _]) _ _ _); k_dflt (refine' sayP_use (is_whole_ _ _ _ _ _ _ _) ?k1_05_0 ?k2_05_0 ?k3_05_0 ?k4_05_0 ?k5_05_0 ?kK_05_0 ?kd_05_0 ?ku_05_0 ?_; (case k1_05_0 => k_asm); (case k2_05_0 => k_asm); (case k3_05_0 => k_asm); (case k4_05_0 => k_asm); (case k5_05_0 => k_asm); (case kK_05_0 => first | exact rfl | assumption); (case kd_05_0 => k_room); (case ku_05_0 => k_units); k_whole); intro v' h' tk' e' F' N'; subst e'; (try k_sweep))))
    | ((fail_if_success (with_reducible show wpAny _ _ _ _ _ _)); with_reducible (first | (dsimp only [TupEnd]; k_dflt (refine' ⟨_, _, _, ?ta_03_2, ?tb_03_2, ?tc_03_2, ?td_03_2⟩; (case ta_03_2 => exact rfl); (case tb_03_2 => assumption); (case tc_03_2 => assumption); (case td_03_2 => (intro z hz; first | rfl | simp [hz])))) | dsimp only [TupEnd]))
    | ((with_reducible show wpAny _ _ (pyIter _) _ _ _); with_reducible ((k_here; (with_reducible show wpAny _ _ (pyIter (Value.ref _)) (fun it s₂ => LoopAtV _ _ _ _ _ _ _ _ _ it s₂) _ _); (with_unfolding_all refine' tup_plain ?k0_03_1 ?k1_03_1 ?k2_03_1 ?k3_03_1 ?k4_03_1 ?k5_03_1 ?kt_03_1 ?kn_03_1; (case k0_03_1 => rfl); (case k1_03_1 => k_asm); (case k2_03_1 => k_asm); (case k3_03_1 => k_mem); (case k4_03_1 => rfl); (case k5_03_1 => rfl)); (case' kn_03_1 => (intro u' h' tk' F' N'; (try k_sweep); (try k_fold))); (case' kt_03_1 => (intro v' h' tk' own' hv' F' N'; (try simp only [List.cons_append] at N'); simp only [List.mem_cons, List.not_mem_nil, or_false] at hv'; rcases hv' with hv' | hv' | hv' <;> (subst hv'; (try k_fold)))))))
    | ((with_reducible show wpAny _ _ (exec (Stmt.For _ _ _ _ _) _) _ _ _); with_reducible ((k_here; (rename Fr _ _ _ _ => lF'); (with_unfolding_all refine' For_invVF lF' ?k1_03_0 ?k2_03_0 ?_; (case k1_03_0 => exact rfl); (case k2_03_0 => exact rfl); k_whole))))
    | walk1
    | (dsimp only; walk1)
    | (leave1; walk_say "STEP leave1"; try dsimp only)
    | fail "no step")
  all_goals first | exact ret _ _ _ _ _ _ _ (by k_asm) (cb_drop (by k_asm) (fun _ hp => List.mem_cons_of_mem _ hp)) (by assumption) (by assumption) (fun q hq => Nat.lt_trans (l1A q hq) l2A)  | (exfalso; simp only [decide_eq_true_eq, decide_eq_false_iff_not] at *; omega)
set_option maxHeartbeats 8000000 in
theorem mkRuleI {w : World} {h d : Int} {t1 t2 t3 : Tok} {led : List (Addr × Obj)} {p : Program} {loose : List Str} {mean : ExcName → Option Value} {mg mb : Str → Option Value} {dp un : Nat} {gd : Option (List Code)} {cn : Str} {cs : Scope} {ad : Addr} {ccd : Value} {cl : List (Str × Addr)} {outer : List Env} {A₀ : Around} {base h₀ : Heap} {L : Addr} {m : Str → Option Value} {hp₁ : Heap} {gn₁ : Array GenState} {dr₁ : Drawn} {tk₁ : Nat} {os₁ : OsState}
    {Q E : Value → Shared → Prop} (B : Below A₀ base outer h₀) (F : Fr h₀ L hp₁ m) (X : (hd.heap_1 w.params).In h₀) (N : News h₀ L hp₁ led) (T : Top p loose mean mg mb h₀) (hk : cs.kind = .function)
    (hd : dp + 6 < recursionLimit) (hu : un + 60 < cLine)
    (hh1 : -1073741823 ≤ h) (hh2 : h ≤ 1073741823) (hd1 : -1073741823 ≤ d) (hd2 : d ≤ 1073741823)
    (ret : ∀ (x dx : Addr)  (a0 a1 a2 : Tok) h' tk', Fr h₀ L h' m → News h₀ L h' ((x, instObj 363 dx) :: (dx, dictOf [ent w.params "width" a0 (.int 7 t3), ent w.params "height" a1 (.int h t1), ent w.params "depth" a2 (.int d t2)] 3) :: led) → (∀ p ∈ led, p.1 < dx) → @LT.lt Nat _ dx x → (∀ p ∈ led, p.1 < x) → Q (.ref x) (.mk h' gn₁ dr₁ tk' os₁)) :
    wpAny (model prog w) (ktrTop dp un gd cn cs L ad ccd cl outer) (call (.ref 363) [.int 7 t3, .int h t1, .int d t2]) Q E (.mk hp₁ gn₁ dr₁ tk₁ os₁) := by
  w_on
  k_dflt (refine' call_cls ?k1 ?k2 ?k3 ?k4 ?k5 ?k6 ?_; (case k1 => k_asm); (case k2 => k_asm); (case k3 => k_asm); (case k4 => k_is); (case k5 => k_is); (case k6 => k_is); k_whole; intro x' d' h' F' N' l1 l2; (have l1A := l1); (have l2A : @LT.lt Nat _ d' x' := l2); (try k_lt l1); (try k_lt2 l2); (try k_sweep); ktr_enter)
  repeat' (first
    | (k_unfold; (try dsimp only))
    | (k_end; wrow_close)
    | ((with_reducible show wpAny _ _ (call _ _) _ _ _); (try k_fold); first
      | with_reducible ((k_here; (with_reducible show wpAny _ _ (call (Value.type "tuple") [Value.ref _]) _ _ _); k_dflt (refine' call_tuple_tup ?t_06_0 ?_; (case t_06_0 => (refine' tup_at ?n_06_0 ?m_06_0; (case n_06_0 => k_asm); (case m_06_0 => k_mem))); k_whole)))
      | with_reducible ((k_here; (with_reducible show wpAny _ _ (call (Value.ref 110) [Value.int _ _]) _ _ _); k_dflt (refine' sayP_use (dimen_ _ _ _ ?h1_05_1 ?h2_05_1) ?k1_05_1 ?k2_05_1 ?k3_05_1 ?k4_05_1 ?k5_05_1 ?kK_05_1 ?kd_05_1 ?ku_05_1 ?_; (case h1_05_1 => first | assumption | omega); (case h2_05_1 => first | assumption | omega); (case k1_05_1 => k_asm); (case k2_05_1 => k_asm); (case k3_05_1 => k_asm); (case k4_05_1 => k_asm); (case k5_05_1 => k_asm); (case kK_05_1 => first | exact rfl | assumption); (case kd_05_1 => k_room); (case ku_05_1 => k_units); k_whole); intro v' h' tk' e' F' N'; subst e'; (try k_sweep)))
      | with_reducible ((k_here; (with_reducible show wpAny _ _ (call (Value.ref 89) [Value.int _ _, Value.int _ _, Value.int _ _]) _ _ _); k_dflt (refine' sayP_use (is_whole_ _ _ _ _ _ _ _) ?k1_05_0 ?k2_05_0 ?k3_05_0 ?k4_05_0 ?k5_05_0 ?kK_05_0 ?kd_05_0 ?ku_05_0 ?_; (case k1_05_0 => k_asm); (case k2_05_0 => k_asm); (case k3_05_0 => k_asm); (case k4_05_0 => k_asm); (case k5_05_0 => k_asm); (case kK_05_0 => first | exact rfl | assumption); (case kd_05_0 => k_room); (case ku_05_0 => k_units); k_whole); intro v' h' tk' e' F' N'; subst e'; (try k_sweep))))
    | ((fail_if_success (with_reducible show wpAny _ _ _ _ _ _)); with_reducible (first | (dsimp only [TupEnd]; k_dflt (refine' ⟨_, _, _, ?ta_03_2, ?tb_03_2, ?tc_03_2, ?td_03_2⟩; (case ta_03_2 => exact rfl); (case tb_03_2 => assumption); (case tc_03_2 => assumption); (case td_03_2 => (intro z hz; first | rfl | simp [hz])))) | dsimp only [TupEnd]))
    | ((with_reducible show wpAny _ _ (pyIter _) _ _ _); with_reducible ((k_here; (with_reducible show wpAny _ _ (pyIter (Value.ref _)) (fun it s₂ => LoopAtV _ _ _ _ _ _ _ _ _ it s₂) _ _); (with_unfolding_all refine' tup_plain ?k0_03_1 ?k1_03_1 ?k2_03_1 ?k3_03_1 ?k4_03_1 ?k5_03_1 ?kt_03_1 ?kn_03_1; (case k0_03_1 => rfl); (case k1_03_1 => k_asm); (case k2_03_1 => k_asm); (case k3_03_1 => k_mem); (case k4_03_1 => rfl); (case k5_03_1 => rfl)); (case' kn_03_1 => (intro u' h' tk' F' N'; (try k_sweep); (try k_fold))); (case' kt_03_1 => (intro v' h' tk' own' hv' F' N'; (try simp only [List.cons_append] at N'); simp only [List.mem_cons, List.not_mem_nil, or_false] at hv'; rcases hv' with hv' | hv' | hv' <;> (subst hv'; (try k_fold)))))))
    | ((with_reducible show wpAny _ _ (exec (Stmt.For _ _ _ _ _) _) _ _ _); with_reducible ((k_here; (rename Fr _ _ _ _ => lF'); (with_unfolding_all refine' For_invVF lF' ?k1_03_0 ?k2_03_0 ?_; (case k1_03_0 => exact rfl); (case k2_03_0 => exact rfl); k_whole))))
    | walk1
    | (dsimp only; walk1)
    | (leave1; walk_say "STEP leave1"; try dsimp only)
    | fail "no step")
  all_goals first | exact ret _ _ _ _ _ _ _ (by k_asm) (cb_drop (by k_asm) (fun _ hp => List.mem_cons_of_mem _ hp)) (by assumption) (by assumption) (fun q hq => Nat.lt_trans (l1A q hq) l2A)  | (exfalso; simp only [decide_eq_true_eq, decide_eq_false_iff_not] at *; omega)
set_option maxHeartbeats 8000000 in
theorem mkBox {w : World} {k wd h d : Int} {t1 t2 t3 t4 : Tok} {it : Addr} {led : List (Addr × Obj)} {p : Program} {loose : List Str} {mean : ExcName → Option Value} {mg mb : Str → Option Value} {dp un : Nat} {gd : Option (List Code)} {cn : Str} {cs : Scope} {ad : Addr} {ccd : Value} {cl : List (Str × Addr)} {outer : List Env} {A₀ : Around} {base h₀ : Heap} {L : Addr} {m : Str → Option Value} {hp₁ : Heap} {gn₁ : Array GenState} {dr₁ : Drawn} {tk₁ : Nat} {os₁ : OsState}
    {Q E : Value → Shared → Prop} (B : Below A₀ base outer h₀) (F : Fr h₀ L hp₁ m) (X : (hd.heap_1 w.params).In h₀) (N : News h₀ L hp₁ led) (T : Top p loose mean mg mb h₀) (hk : cs.kind = .function)
    (hd : dp + 6 < recursionLimit) (hu : un + 60 < cLine)
    (hk1 : 2 ≤ k) (hk2 : k ≤ 3) (hwd1 : -1073741823 ≤ wd) (hwd2 : wd ≤ 1073741823) (hh1 : -1073741823 ≤ h) (hh2 : h ≤ 1073741823) (hd1 : -1073741823 ≤ d) (hd2 : d ≤ 1073741823)
    (ret : ∀ (x dx : Addr) (r : Addr) (b1 b2 b3 b4 b5 : Tok) (a0 a1 a2 a3 a4 a5 a6 a7 a8 : Tok) h' tk', Fr h₀ L h' m → News h₀ L h' ((r, tupO [.int 0 b4, .int 1 b5]) :: (x, instObj 342 dx) :: (dx, dictOf [ent w.params "kind" a0 (.int k t1), ent w.params "width" a1 (.int wd t2), ent w.params "height" a2 (.int h t3), ent w.params "depth" a3 (.int d t4), ent w.params "items" a4 (.ref it), ent w.params "shift" a5 (.int 0 b1), ent w.params "sign" a6 (.int 0 b2), ent w.params "order" a7 (.int 0 b3), ent w.params "ratio" a8 (.ref r)] 9) :: led) → (∀ p ∈ led, p.1 < dx) → @LT.lt Nat _ dx x → (∀ p ∈ led, p.1 < x) → @LT.lt Nat _ dx r → @LT.lt Nat _ x r → (∀ p ∈ led, p.1 < r) → Q (.ref x) (.mk h' gn₁ dr₁ tk' os₁)) :
    wpAny (model prog w) (ktrTop dp un gd cn cs L ad ccd cl outer) (call (.ref 342) [.int k t1, .int wd t2, .int h t3, .int d t4, .ref it]) Q E (.mk hp₁ gn₁ dr₁ tk₁ os₁) := by
  w_on
  k_dflt (refine' call_cls ?k1 ?k2 ?k3 ?k4 ?k5 ?k6 ?_; (case k1 => k_asm); (case k2 => k_asm); (case k3 => k_asm); (case k4 => k_is); (case k5 => k_is); (case k6 => k_is); k_whole; intro x' d' h' F' N' l1 l2; (have l1A := l1); (have l2A : @LT.lt Nat _ d' x' := l2); (try k_lt l1); (try k_lt2 l2); (try k_sweep); ktr_enter)
  repeat' (first
    | (k_unfold; (try dsimp only))
    | (k_end; wrow_close)
    | ((with_reducible show wpAny _ _ (call _ _) _ _ _); (try k_fold); first
      | with_reducible ((k_here; (with_reducible show wpAny _ _ (call (Value.type "tuple") [Value.ref _]) _ _ _); k_dflt (refine' call_tuple_tup ?t_06_0 ?_; (case t_06_0 => (refine' tup_at ?n_06_0 ?m_06_0; (case n_06_0 => k_asm); (case m_06_0 => k_mem))); k_whole)))
      | with_reducible ((k_here; (with_reducible show wpAny _ _ (call (Value.ref 110) [Value.int _ _]) _ _ _); k_dflt (refine' sayP_use (dimen_ _ _ _ ?h1_05_1 ?h2_05_1) ?k1_05_1 ?k2_05_1 ?k3_05_1 ?k4_05_1 ?k5_05_1 ?kK_05_1 ?kd_05_1 ?ku_05_1 ?_; (case h1_05_1 => first | assumption | omega); (case h2_05_1 => first | assumption | omega); (case k1_05_1 => k_asm); (case k2_05_1 => k_asm); (case k3_05_1 => k_asm); (case k4_05_1 => k_asm); (case k5_05_1 => k_asm); (case kK_05_1 => first | exact rfl | assumption); (case kd_05_1 => k_room); (case ku_05_1 => k_units); k_whole); intro v' h' tk' e' F' N'; subst e'; (try k_sweep)))
      | with_reducible ((k_here; (with_reducible show wpAny _ _ (call (Value.ref 89) [Value.int _ _, Value.int _ _, Value.int _ _]) _ _ _); k_dflt (refine' sayP_use (is_whole_ _ _ _ _ _ _ _) ?k1_05_0 ?k2_05_0 ?k3_05_0 ?k4_05_0 ?k5_05_0 ?kK_05_0 ?kd_05_0 ?ku_05_0 ?_; (case k1_05_0 => k_asm); (case k2_05_0 => k_asm); (case k3_05_0 => k_asm); (case k4_05_0 => k_asm); (case k5_05_0 => k_asm); (case kK_05_0 => first | exact rfl | assumption); (case kd_05_0 => k_room); (case ku_05_0 => k_units); k_whole); intro v' h' tk' e' F' N'; subst e'; (try k_sweep))))
    | ((fail_if_success (with_reducible show wpAny _ _ _ _ _ _)); with_reducible (first | (dsimp only [TupEnd]; k_dflt (refine' ⟨_, _, _, ?ta_03_2, ?tb_03_2, ?tc_03_2, ?td_03_2⟩; (case ta_03_2 => exact rfl); (case tb_03_2 => assumption); (case tc_03_2 => assumption); (case td_03_2 => (intro z hz; first | rfl | simp [hz])))) | dsimp only [TupEnd]))
    | ((with_reducible show wpAny _ _ (pyIter _) _ _ _); with_reducible ((k_here; (with_reducible show wpAny _ _ (pyIter (Value.ref _)) (fun it s₂ => LoopAtV _ _ _ _ _ _ _ _ _ it s₂) _ _); (with_unfolding_all refine' tup_plain ?k0_03_1 ?k1_03_1 ?k2_03_1 ?k3_03_1 ?k4_03_1 ?k5_03_1 ?kt_03_1 ?kn_03_1; (case k0_03_1 => rfl); (case k1_03_1 => k_asm); (case k2_03_1 => k_asm); (case k3_03_1 => k_mem); (case k4_03_1 => rfl); (case k5_03_1 => rfl)); (case' kn_03_1 => (intro u' h' tk' F' N'; (try k_sweep); (try k_fold))); (case' kt_03_1 => (intro v' h' tk' own' hv' F' N'; (try simp only [List.cons_append] at N'); simp only [List.mem_cons, List.not_mem_nil, or_false] at hv'; rcases hv' with hv' | hv' | hv' <;> (subst hv'; (try k_fold)))))))
    | ((with_reducible show wpAny _ _ (exec (Stmt.For _ _ _ _ _) _) _ _ _); with_reducible ((k_here; (rename Fr _ _ _ _ => lF'); (with_unfolding_all refine' For_invVF lF' ?k1_03_0 ?k2_03_0 ?_; (case k1_03_0 => exact rfl); (case k2_03_0 => exact rfl); k_whole))))
    | walk1
    | (dsimp only; walk1)
    | (leave1; walk_say "STEP leave1"; try dsimp only)
    | fail "no step")
  all_goals first | exact ret _ _ _ _ _ _ _ _ _ _ _ _ _ _ _ _ _ _ _ (by k_asm) (by k_asm) (by assumption) (by assumption) (fun q hq => Nat.lt_trans (l1A q hq) l2A) (by omega) (by omega) (fun q hq => Nat.lt_trans (l1A q hq) (by have := l2A; omega)) | (exfalso; simp only [decide_eq_true_eq, decide_eq_false_iff_not] at *; omega)
set_option maxHeartbeats 8000000 in
theorem mkTotals {w : World}  {led : List (Addr × Obj)} {p : Program} {loose : List Str} {mean : ExcName → Option Value} {mg mb : Str → Option Value} {dp un : Nat} {gd : Option (List Code)} {cn : Str} {cs : Scope} {ad : Addr} {ccd : Value} {cl : List (Str × Addr)} {outer : List Env} {A₀ : Around} {base h₀ : Heap} {L : Addr} {m : Str → Option Value} {hp₁ : Heap} {gn₁ : Array GenState} {dr₁ : Drawn} {tk₁ : Nat} {os₁ : OsState}
    {Q E : Value → Shared → Prop} (B : Below A₀ base outer h₀) (F : Fr h₀ L hp₁ m) (X : (hd.heap_1 w.params).In h₀) (N : News h₀ L hp₁ led) (T : Top p loose mean mg mb h₀) (hk : cs.kind = .function)
    (hd : dp + 6 < recursionLimit) (hu : un + 60 < cLine)
    
    (ret : ∀ (x dx : Addr) (ls lk : Addr) (b1 c1 c2 c3 c4 c5 c6 c7 c8 : Tok) (a0 a1 a2 : Tok) h' tk', Fr h₀ L h' m → News h₀ L h' ((lk, listOf #[.int 0 c5, .int 0 c6, .int 0 c7, .int 0 c8] 0) :: (ls, listOf #[.int 0 c1, .int 0 c2, .int 0 c3, .int 0 c4] 0) :: (x, instObj 297 dx) :: (dx, dictOf [ent w.params "natural" a0 (.int 0 b1), ent w.params "stretch" a1 (.ref ls), ent w.params "shrink" a2 (.ref lk)] 3) :: led) → (∀ p ∈ led, p.1 < dx) → @LT.lt Nat _ dx x → (∀ p ∈ led, p.1 < x) → @LT.lt Nat _ x ls → @LT.lt Nat _ ls lk → (∀ p ∈ led, p.1 < ls) → (∀ p ∈ led, p.1 < lk) → Q (.ref x) (.mk h' gn₁ dr₁ tk' os₁)) :
    wpAny (model prog w) (ktrTop dp un gd cn cs L ad ccd cl outer) (call (.ref 297) []) Q E (.mk hp₁ gn₁ dr₁ tk₁ os₁) := by
  w_on
  k_dflt (refine' call_cls ?k1 ?k2 ?k3 ?k4 ?k5 ?k6 ?_; (case k1 => k_asm); (case k2 => k_asm); (case k3 => k_asm); (case k4 => k_is); (case k5 => k_is); (case k6 => k_is); k_whole; intro x' d' h' F' N' l1 l2; (have l1A := l1); (have l2A : @LT.lt Nat _ d' x' := l2); (try k_lt l1); (try k_lt2 l2); (try k_sweep); ktr_enter)
  repeat' (first
    | (k_unfold; (try dsimp only))
    | (k_end; wrow_close)
    | ((with_reducible show wpAny _ _ (call _ _) _ _ _); (try k_fold); first
      | with_reducible ((k_here; (with_reducible show wpAny _ _ (call (Value.type "tuple") [Value.ref _]) _ _ _); k_dflt (refine' call_tuple_tup ?t_06_0 ?_; (case t_06_0 => (refine' tup_at ?n_06_0 ?m_06_0; (case n_06_0 => k_asm); (case m_06_0 => k_mem))); k_whole)))
      | with_reducible ((k_here; (with_reducible show wpAny _ _ (call (Value.ref 110) [Value.int _ _]) _ _ _); k_dflt (refine' sayP_use (dimen_ _ _ _ ?h1_05_1 ?h2_05_1) ?k1_05_1 ?k2_05_1 ?k3_05_1 ?k4_05_1 ?k5_05_1 ?kK_05_1 ?kd_05_1 ?ku_05_1 ?_; (case h1_05_1 => first | assumption | omega); (case h2_05_1 => first | assumption | omega); (case k1_05_1 => k_asm); (case k2_05_1 => k_asm); (case k3_05_1 => k_asm); (case k4_05_1 => k_asm); (case k5_05_1 => k_asm); (case kK_05_1 => first | exact rfl | assumption); (case kd_05_1 => k_room); (case ku_05_1 => k_units); k_whole); intro v' h' tk' e' F' N'; subst e'; (try k_sweep)))
      | with_reducible ((k_here; (with_reducible show wpAny _ _ (call (Value.ref 89) [Value.int _ _, Value.int _ _, Value.int _ _]) _ _ _); k_dflt (refine' sayP_use (is_whole_ _ _ _ _ _ _ _) ?k1_05_0 ?k2_05_0 ?k3_05_0 ?k4_05_0 ?k5_05_0 ?kK_05_0 ?kd_05_0 ?ku_05_0 ?_; (case k1_05_0 => k_asm); (case k2_05_0 => k_asm); (case k3_05_0 => k_asm); (case k4_05_0 => k_asm); (case k5_05_0 => k_asm); (case kK_05_0 => first | exact rfl | assumption); (case kd_05_0 => k_room); (case ku_05_0 => k_units); k_whole); intro v' h' tk' e' F' N'; subst e'; (try k_sweep))))
    | ((fail_if_success (with_reducible show wpAny _ _ _ _ _ _)); with_reducible (first | (dsimp only [TupEnd]; k_dflt (refine' ⟨_, _, _, ?ta_03_2, ?tb_03_2, ?tc_03_2, ?td_03_2⟩; (case ta_03_2 => exact rfl); (case tb_03_2 => assumption); (case tc_03_2 => assumption); (case td_03_2 => (intro z hz; first | rfl | simp [hz])))) | dsimp only [TupEnd]))
    | ((with_reducible show wpAny _ _ (pyIter _) _ _ _); with_reducible ((k_here; (with_reducible show wpAny _ _ (pyIter (Value.ref _)) (fun it s₂ => LoopAtV _ _ _ _ _ _ _ _ _ it s₂) _ _); (with_unfolding_all refine' tup_plain ?k0_03_1 ?k1_03_1 ?k2_03_1 ?k3_03_1 ?k4_03_1 ?k5_03_1 ?kt_03_1 ?kn_03_1; (case k0_03_1 => rfl); (case k1_03_1 => k_asm); (case k2_03_1 => k_asm); (case k3_03_1 => k_mem); (case k4_03_1 => rfl); (case k5_03_1 => rfl)); (case' kn_03_1 => (intro u' h' tk' F' N'; (try k_sweep); (try k_fold))); (case' kt_03_1 => (intro v' h' tk' own' hv' F' N'; (try simp only [List.cons_append] at N'); simp only [List.mem_cons, List.not_mem_nil, or_false] at hv'; rcases hv' with hv' | hv' | hv' <;> (subst hv'; (try k_fold)))))))
    | ((with_reducible show wpAny _ _ (exec (Stmt.For _ _ _ _ _) _) _ _ _); with_reducible ((k_here; (rename Fr _ _ _ _ => lF'); (with_unfolding_all refine' For_invVF lF' ?k1_03_0 ?k2_03_0 ?_; (case k1_03_0 => exact rfl); (case k2_03_0 => exact rfl); k_whole))))
    | walk1
    | (dsimp only; walk1)
    | (leave1; walk_say "STEP leave1"; try dsimp only)
    | fail "no step")
  all_goals first | exact ret _ _ _ _ _ _ _ _ _ _ _ _ _ _ _ _ _ _ (by k_asm) (by k_asm) (by assumption) (by assumption) (fun q hq => Nat.lt_trans (l1A q hq) l2A) (by omega) (by omega) (fun q hq => Nat.lt_trans (l1A q hq) (by have := l2A; omega)) (fun q hq => Nat.lt_trans (l1A q hq) (by have := l2A; omega)) | (exfalso; simp only [decide_eq_true_eq, decide_eq_false_iff_not] at *; omega)
/-- a part of a vertical list -/
inductive Nd where
  | box (k wd h d sh : Int)
  | rule (f : Bool) (h d : Int)
  | kern (wd : Int)
  | pen (v : Int)
  | mark
  | skip (wd st so sk ko : Int)
/-- how the ledger bears it -/
inductive NodeAt (P : Params) : Value → Nd → List (Addr × Obj) → Prop where
  | box {x dx it r : Addr} {k wd h d sh : Int} {a0 a1 a2 a3 a4 a5 a6 a7 a8 u0 u1 u2 u3 u5 u6 u7 b4 b5 : Tok} : 2 ≤ k → k ≤ 3 → NodeAt P (.ref x) (.box k wd h d sh)
      [(x, instObj 342 dx), (dx, dictOf [ent P "kind" a0 (.int k u0), ent P "width" a1 (.int wd u1), ent P "height" a2 (.int h u2), ent P "depth" a3 (.int d u3), ent P "items" a4 (.ref it), ent P "shift" a5 (.int sh u5), ent P "sign" a6 (.int 0 u6), ent P "order" a7 (.int 0 u7), ent P "ratio" a8 (.ref r)] 9),
        (it, listOf #[] 0), (r, tupO [.int 0 b4, .int 1 b5])]
  | ruleN {x dx : Addr} {h d : Int} {a0 a1 a2 u1 u2 : Tok} : NodeAt P (.ref x) (.rule false h d) [(x, instObj 363 dx), (dx, dictOf [ent P "width" a0 .none, ent P "height" a1 (.int h u1), ent P "depth" a2 (.int d u2)] 3)]
  | ruleI {x dx : Addr} {h d : Int} {a0 a1 a2 u0 u1 u2 : Tok} : NodeAt P (.ref x) (.rule true h d) [(x, instObj 363 dx), (dx, dictOf [ent P "width" a0 (.int 7 u0), ent P "height" a1 (.int h u1), ent P "depth" a2 (.int d u2)] 3)]
  | kern {x dx : Addr} {wd : Int} {a0 a1 u0 u1 : Tok} : NodeAt P (.ref x) (.kern wd) [(x, instObj 384 dx), (dx, dictOf [ent P "width" a0 (.int wd u0), ent P "sort" a1 (.int 1 u1)] 2)]
  | pen {x dx : Addr} {v : Int} {a0 u0 : Tok} : NodeAt P (.ref x) (.pen v) [(x, instObj 427 dx), (dx, dictOf [ent P "value" a0 (.int v u0)] 1)]
  | mark {x dx tp q : Addr} {a0 u0 u1 : Tok} : NodeAt P (.ref x) .mark [(x, instObj 448 dx), (dx, dictOf [ent P "tokens" a0 (.ref tp)] 1), (tp, tupO [.ref q]), (q, tupO [.int 11 u0, .int 97 u1])]
  | skip {x dx g dg : Addr} {wd st so sk ko : Int} {a0 a1 a2 u1 c0 c1 c2 c3 c4 v0 v1 v2 v3 v4 : Tok} : 0 ≤ st → st < 100 → 0 ≤ sk → sk < 100 → 0 ≤ so → so ≤ 3 → 0 ≤ ko → ko ≤ 3 → NodeAt P (.ref x) (.skip wd st so sk ko)
      [(x, instObj 406 dx), (dx, dictOf [ent P "glue" a0 (.ref g), ent P "sort" a1 (.int 0 u1), ent P "leader" a2 .none] 3),
        (g, instObj 234 dg), (dg, dictOf [ent P "width" c0 (.int wd v0), ent P "stretch" c1 (.int st v1), ent P "stretch_order" c2 (.int so v2), ent P "shrink" c3 (.int sk v3), ent P "shrink_order" c4 (.int ko v4)] 5)]
theorem allLt_mono {d e : Addr} (h : @LE.le Nat _ d e) : ∀ {l : List (Addr × Obj)}, AllLt d l → AllLt e l
  | [], _ => trivial
  | _ :: _, x => ⟨Nat.lt_of_lt_of_le x.1 h, allLt_mono h x.2⟩
theorem allLt_ne {d : Addr} : ∀ {l : List (Addr × Obj)}, AllLt d l → ∀ p ∈ l, p.1 ≠ d := by
  intro l
  induction l with
  | nil => intro _ p h; cases h
  | cons q r ih =>
    intro x p h
    cases h with
    | head => exact Nat.ne_of_lt x.1
    | tail _ h => exact ih x.2 p h
/-- newer than the pool and the rest -/
def AboveAll (pl : Addr) (rest new : List (Addr × Obj)) : Prop := ∀ q ∈ new, @LT.lt Nat _ pl q.1 ∧ AllLt q.1 rest
inductive PartOut (P : Params) (pl : Addr) (rest : List (Addr × Obj)) (v : Value) (led : List (Addr × Obj)) : Prop where
  | mk : ∀ nd new a ta b tb, NodeAt P v nd new → (∀ p ∈ new ++ (pl, poolO a ta b tb) :: rest, p ∈ led) → AboveAll pl rest new → PoolOk a b → PartOut P pl rest v led
/-- between the choice of the part's way and its making -/
inductive PartMid (g : Heap) (L pl : Addr) (rest : List (Addr × Obj)) (s s' : Shared) : Prop where
  | mk : ∀ h tk k t a ta b tb (u : Str → Option Value), s' = { s with heap := h, toks := tk } → 0 ≤ k → k < 9 → PoolOk a b → Fr g L h (fun y => if y = Str.ofString "way" then some (.int k t) else if y = Str.ofString "pool" then some (.ref pl) else u y) → News g L h ((pl, poolO a ta b tb) :: rest) → PartMid g L pl rest s s'
theorem partMid {g h : Heap} {L pl : Addr} {rest : List (Addr × Obj)} {s : Shared} {tk : Nat} {k a b : Int} {t ta tb : Tok} {m : Str → Option Value} {led : List (Addr × Obj)} (F : Fr g L h m) (N : News g L h led) (h1 : m (Str.ofString "way") = some (.int k t)) (h2 : m (Str.ofString "pool") = some (.ref pl))
    (hl : ∀ p ∈ (pl, poolO a ta b tb) :: rest, p ∈ led) (k0 : 0 ≤ k) (k1 : k < 9) (hp : PoolOk a b) : PartMid g L pl rest s { s with heap := h, toks := tk } :=
  ⟨h, tk, k, t, a, ta, b, tb, m, rfl, k0, k1, hp, fr2 F h1 h2, cb_drop N hl⟩
theorem part_cut {M : Model} {A : Around} {E : Value → Shared → Prop} {s : Shared} {env : Env} {st : Stmt} {rest : List Stmt} {Q : Flow → Shared → Prop} {g : Heap} {L pl : Addr} {o : Obj} {m : Str → Option Value} {rl : List (Addr × Obj)} (F : Fr g L s.heap m) (N : News g L s.heap ((pl, o) :: rl))
    (h2 : ∀ h tk k t a ta b tb, ∀ (u : Str → Option Value), 0 ≤ k → k < 9 → PoolOk a b → Fr g L h (fun y => if y = Str.ofString "way" then some (.int k t) else if y = Str.ofString "pool" then some (.ref pl) else u y) → News g L h ((pl, poolO a ta b tb) :: rl) → wpAny M A (execs rest env) Q E { s with heap := h, toks := tk })
    (h1 : wpAny M A (exec st env) (fun f s' => f = .next ∧ PartMid g L pl rl s s') E s) :
    wpAny M A (execs (st :: rest) env) Q E s :=
  execs_cut (PartMid g L pl rl s) h1 (by
    rintro s' ⟨h, tk, k, t, a, ta, b, tb, u, rfl, k0, k1, hp, F', N'⟩
    exact h2 h tk k t a ta b tb u k0 k1 hp F' N')
set_option maxHeartbeats 8000000 in
theorem part_ (w : World) (pl : Addr) (a b : Int) (ta tb : Tok) (fb : Bool) (rest : List (Addr × Obj)) (hoff : ∀ p ∈ rest, p.1 ≠ pl) (hp : PoolOk a b) :
    Say prog w (hd.heap_1 w.params) 640 [.ref pl, .bool fb] ((pl, poolO a ta b tb) :: rest) 9 120 (PartOut w.params pl rest) := by
  refine say_in ?_
  intro p loose mean mg mb dp un gd cn cs a ccd cl outer A₀ base h₀ L m hp₀ gn₀ dr₀ tk₀ os₀ Q E B F X N T hk hd hu hret
  w_on
  refine wpAny_call ?_
  k_dflt ktr_enter
  repeat' (first
    | (k_unfold; (try dsimp only))
    | (k_end; wrow_close)
    | ((with_reducible show wpAny _ _ (execs _ _) _ _ _); with_reducible ((k_here; (with_reducible show wpAny _ _ (execs (Stmt.If (Expr.BoolOp _ _ _) _ _ ⟨430, 4, 431, 21⟩ :: _) _) _ _ _); (refine part_cut (by k_asm) (by k_asm) ?_ ?_); (focus (intro h' tk' k' t' a' ta' b' tb' u' k0' k1' hp' F' N'; (try k_sweep); (try k_fold))))))
    | ((with_reducible show wpAny _ _ (call _ _) _ _ _); (try k_fold); first
      | with_reducible ((k_here; (with_reducible show wpAny _ _ (call (Value.ref 342) [Value.int _ _, Value.int _ _, Value.int _ _, Value.int _ _, Value.ref _]) _ _ _); k_dflt (refine' mkBox ?k1_06_8 ?k2_06_8 ?k3_06_8 ?k4_06_8 ?k5_06_8 ?kK_06_8 ?kd_06_8 ?ku_06_8 ?hk1_06_8 ?hk2_06_8 ?hwd1_06_8 ?hwd2_06_8 ?hh1_06_8 ?hh2_06_8 ?hd1_06_8 ?hd2_06_8 ?_; (case k1_06_8 => k_asm); (case k2_06_8 => k_asm); (case k3_06_8 => k_asm); (case k4_06_8 => k_asm); (case k5_06_8 => k_asm); (case kK_06_8 => first | exact rfl | assumption); (case hk1_06_8 => first | assumption | k_mem | omega); (case hk2_06_8 => first | assumption | k_mem | omega); (case hwd1_06_8 => first | assumption | k_mem | omega); (case hwd2_06_8 => first | assumption | k_mem | omega); (case hh1_06_8 => first | assumption | k_mem | omega); (case hh2_06_8 => first | assumption | k_mem | omega); (case hd1_06_8 => first | assumption | k_mem | omega); (case hd2_06_8 => first | assumption | k_mem | omega); (case kd_06_8 => k_room); (case ku_06_8 => k_units); k_whole); intro x' d' b0' b1' b2' b3' b4' b5' a0' a1' a2' a3' a4' a5' a6' a7' a8' h' tk' F' N' l1 l2 l3 p0' p1' p2'; (try k_lt l1); (try k_lt l3); (try k_lt p2'); (try dsimp only at N'); (try k_sweep)))
      | with_reducible ((k_here; (with_reducible show wpAny _ _ (call (Value.ref 363) [Value.int _ _, Value.int _ _, Value.int _ _]) _ _ _); k_dflt (refine' mkRuleI ?k1_06_7 ?k2_06_7 ?k3_06_7 ?k4_06_7 ?k5_06_7 ?kK_06_7 ?kd_06_7 ?ku_06_7 ?hh1_06_7 ?hh2_06_7 ?hd1_06_7 ?hd2_06_7 ?_; (case k1_06_7 => k_asm); (case k2_06_7 => k_asm); (case k3_06_7 => k_asm); (case k4_06_7 => k_asm); (case k5_06_7 => k_asm); (case kK_06_7 => first | exact rfl | assumption); (case hh1_06_7 => first | assumption | k_mem | omega); (case hh2_06_7 => first | assumption | k_mem | omega); (case hd1_06_7 => first | assumption | k_mem | omega); (case hd2_06_7 => first | assumption | k_mem | omega); (case kd_06_7 => k_room); (case ku_06_7 => k_units); k_whole); intro x' d' a0' a1' a2' h' tk' F' N' l1 l2 l3; (try k_lt l1); (try k_lt l3); (try dsimp only at N'); (try k_sweep)))
      | with_reducible ((k_here; (with_reducible show wpAny _ _ (call (Value.ref 363) [Value.none, Value.int _ _, Value.int _ _]) _ _ _); k_dflt (refine' mkRuleN ?k1_06_6 ?k2_06_6 ?k3_06_6 ?k4_06_6 ?k5_06_6 ?kK_06_6 ?kd_06_6 ?ku_06_6 ?hh1_06_6 ?hh2_06_6 ?hd1_06_6 ?hd2_06_6 ?_; (case k1_06_6 => k_asm); (case k2_06_6 => k_asm); (case k3_06_6 => k_asm); (case k4_06_6 => k_asm); (case k5_06_6 => k_asm); (case kK_06_6 => first | exact rfl | assumption); (case hh1_06_6 => first | assumption | k_mem | omega); (case hh2_06_6 => first | assumption | k_mem | omega); (case hd1_06_6 => first | assumption | k_mem | omega); (case hd2_06_6 => first | assumption | k_mem | omega); (case kd_06_6 => k_room); (case ku_06_6 => k_units); k_whole); intro x' d' a0' a1' a2' h' tk' F' N' l1 l2 l3; (try k_lt l1); (try k_lt l3); (try dsimp only at N'); (try k_sweep)))
      | with_reducible ((k_here; (with_reducible show wpAny _ _ (call (Value.ref 406) [Value.ref _, Value.int 0 _]) _ _ _); k_dflt (refine' mkSkip ?k1_06_5 ?k2_06_5 ?k3_06_5 ?k4_06_5 ?k5_06_5 ?kK_06_5 ?kd_06_5 ?ku_06_5  ?_; (case k1_06_5 => k_asm); (case k2_06_5 => k_asm); (case k3_06_5 => k_asm); (case k4_06_5 => k_asm); (case k5_06_5 => k_asm); (case kK_06_5 => first | exact rfl | assumption); (case kd_06_5 => k_room); (case ku_06_5 => k_units); k_whole); intro x' d' a0' a1' a2' h' tk' F' N' l1 l2 l3; (try k_lt l1); (try k_lt l3); (try dsimp only at N'); (try k_sweep)))
      | with_reducible ((k_here; (with_reducible show wpAny _ _ (call (Value.ref 448) [Value.ref _]) _ _ _); k_dflt (refine' mkMark ?k1_06_4 ?k2_06_4 ?k3_06_4 ?k4_06_4 ?k5_06_4 ?kK_06_4 ?kd_06_4 ?ku_06_4 ?hm_06_4 ?_; (case k1_06_4 => k_asm); (case k2_06_4 => k_asm); (case k3_06_4 => k_asm); (case k4_06_4 => k_asm); (case k5_06_4 => k_asm); (case kK_06_4 => first | exact rfl | assumption); (case hm_06_4 => first | assumption | k_mem | omega); (case kd_06_4 => k_room); (case ku_06_4 => k_units); k_whole); intro x' d' a0' h' tk' F' N' l1 l2 l3; (try k_lt l1); (try k_lt l3); (try dsimp only at N'); (try k_sweep)))
      | with_reducible ((k_here; (with_reducible show wpAny _ _ (call (Value.ref 427) [Value.int _ _]) _ _ _); k_dflt (refine' mkPenalty ?k1_06_3 ?k2_06_3 ?k3_06_3 ?k4_06_3 ?k5_06_3 ?kK_06_3 ?kd_06_3 ?ku_06_3 ?hv1_06_3 ?hv2_06_3 ?_; (case k1_06_3 => k_asm); (case k2_06_3 => k_asm); (case k3_06_3 => k_asm); (case k4_06_3 => k_asm); (case k5_06_3 => k_asm); (case kK_06_3 => first | exact rfl | assumption); (case hv1_06_3 => first | assumption | k_mem | omega); (case hv2_06_3 => first | assumption | k_mem | omega); (case kd_06_3 => k_room); (case ku_06_3 => k_units); k_whole); intro x' d' a0' h' tk' F' N' l1 l2 l3; (try k_lt l1); (try k_lt l3); (try dsimp only at N'); (try k_sweep)))
      | with_reducible ((k_here; (with_reducible show wpAny _ _ (call (Value.ref 384) [Value.int _ _, Value.int _ _]) _ _ _); k_dflt (refine' mkKern ?k1_06_2 ?k2_06_2 ?k3_06_2 ?k4_06_2 ?k5_06_2 ?kK_06_2 ?kd_06_2 ?ku_06_2 ?hwd1_06_2 ?hwd2_06_2 ?h7_06_2 ?h8_06_2 ?_; (case k1_06_2 => k_asm); (case k2_06_2 => k_asm); (case k3_06_2 => k_asm); (case k4_06_2 => k_asm); (case k5_06_2 => k_asm); (case kK_06_2 => first | exact rfl | assumption); (case hwd1_06_2 => first | assumption | k_mem | omega); (case hwd2_06_2 => first | assumption | k_mem | omega); (case h7_06_2 => first | assumption | k_mem | omega); (case h8_06_2 => first | assumption | k_mem | omega); (case kd_06_2 => k_room); (case ku_06_2 => k_units); k_whole); intro x' d' a0' a1' h' tk' F' N' l1 l2 l3; (try k_lt l1); (try k_lt l3); (try dsimp only at N'); (try k_sweep)))
      | with_reducible ((k_here; (with_reducible show wpAny _ _ (call (Value.ref 234) [Value.int _ _, Value.int _ _, Value.int _ _, Value.int _ _, Value.int _ _]) _ _ _); k_dflt (refine' mkGlue ?k1_06_1 ?k2_06_1 ?k3_06_1 ?k4_06_1 ?k5_06_1 ?kK_06_1 ?kd_06_1 ?ku_06_1 ?hwd1_06_1 ?hwd2_06_1 ?hst1_06_1 ?hst2_06_1 ?hsk1_06_1 ?hsk2_06_1 ?h7_06_1 ?h8_06_1 ?h9_06_1 ?h10_06_1 ?_; (case k1_06_1 => k_asm); (case k2_06_1 => k_asm); (case k3_06_1 => k_asm); (case k4_06_1 => k_asm); (case k5_06_1 => k_asm); (case kK_06_1 => first | exact rfl | assumption); (case hwd1_06_1 => first | assumption | k_mem | omega); (case hwd2_06_1 => first | assumption | k_mem | omega); (case hst1_06_1 => first | assumption | k_mem | omega); (case hst2_06_1 => first | assumption | k_mem | omega); (case hsk1_06_1 => first | assumption | k_mem | omega); (case hsk2_06_1 => first | assumption | k_mem | omega); (case h7_06_1 => first | assumption | k_mem | omega); (case h8_06_1 => first | assumption | k_mem | omega); (case h9_06_1 => first | assumption | k_mem | omega); (case h10_06_1 => first | assumption | k_mem | omega); (case kd_06_1 => k_room); (case ku_06_1 => k_units); k_whole); intro x' d' b0' b1' b2' b3' a0' a1' a2' a3' a4' h' tk' F' N' l1 l2 l3 p0' p1' p2' p3'; (try k_lt l1); (try k_lt l3); (try dsimp only at N'); (try k_sweep)))
      | with_reducible ((k_here; (with_reducible show wpAny _ _ (call (Value.ref 633) [Value.ref _]) _ _ _); k_dflt (refine' sayPool_use (sizeP _ _) ?k1_04_0 ?k2_04_0 ?k3_04_0 ?k4_04_0 ?k5_04_0 ?kK_04_0 ?kU_04_0 ?kp_04_0 ?kd_04_0 ?ku_04_0 ?_; (case k1_04_0 => k_asm); (case k2_04_0 => k_asm); (case k3_04_0 => k_asm); (case k4_04_0 => k_asm); (case k5_04_0 => k_asm); (case kK_04_0 => first | exact rfl | assumption); (case kU_04_0 => k_updF); (case kp_04_0 => assumption); (case kd_04_0 => k_room); (case ku_04_0 => k_units); k_whole); intro v' a' ta' b' tb' h' tk' r' hp' F' N'; obtain ⟨k', t', e', k0', k1'⟩ := r'; subst e'; (try dsimp only at N'); (try k_sweep)))
      | with_reducible ((k_here; (with_reducible show wpAny _ _ (call (Value.ref 626) [Value.ref _, Value.int _ _]) _ _ _); k_dflt (refine' take_use ?k1_02_0 ?k2_02_0 ?k3_02_0 ?k4_02_0 ?k5_02_0 ?kK_02_0 ?kU_02_0 ?kp_02_0 ?kn_02_0 ?km_02_0 ?kd_02_0 ?ku_02_0 ?_; (case k1_02_0 => k_asm); (case k2_02_0 => k_asm); (case k3_02_0 => k_asm); (case k4_02_0 => k_asm); (case k5_02_0 => k_asm); (case kK_02_0 => first | exact rfl | assumption); (case kU_02_0 => k_updF); (case kp_02_0 => assumption); (case kn_02_0 => decide); (case km_02_0 => decide); (case kd_02_0 => k_room); (case ku_02_0 => k_units); k_whole); intro k' t' a' ta' b' tb' h' tk' hp' k0' k1' F' N'; (try dsimp only at N'); (try k_sweep))))
    | ((with_reducible show wpAny _ _ (subscriptTail _ _ _ _) _ _ _); with_reducible ((k_here; (with_reducible show wpAny _ _ (subscriptTail _ _ (Value.ref _) (Value.int _ _)) _ _ _); (with_unfolding_all refine' sub_any ?k1_03_4 ?k2_03_4 ?k3_03_4 ?k4_03_4 ?kn_03_4 ?k5_03_4 ?_ ?k6_03_4; (case k1_03_4 => k_asm); (case k2_03_4 => k_mem); (case k3_03_4 => with_reducible assumption); (case k4_03_4 => with_reducible assumption); (case kn_03_4 => rfl); (case k5_03_4 => decide); (case k6_03_4 => with_unfolding_all rfl); k_whole); intro v' hv'; (try ((have h9 := ints_mem hv'); (have h8 := h9 rfl); clear h9 hv'; obtain ⟨k', t', e', hk'⟩ := h8; subst e'; simp only [List.map_cons, List.map_nil, intOf, List.mem_cons, List.not_mem_nil, or_false] at hk')))))
    | walk1
    | (dsimp only; walk1)
    | (leave1; walk_say "STEP leave1"; try dsimp only)
    | fail "no step")
  all_goals first
    | exact partMid (by k_asm) (by k_asm) (by rfl) (by rfl) (by kcf_all) (by assumption) (by assumption) (by assumption)
    | exact partMid (by k_asm) (by k_asm) (by rfl) (by rfl) (by kcf_all) (Int.fmod_nonneg_of_pos _ (by decide)) (Int.lt_trans (Int.fmod_lt_of_pos _ (by decide)) (by decide)) (by assumption)
    | skip
  all_goals first
    | (refine hret _ _ _ _ (by k_asm) (by k_asm) ⟨_, _, _, _, _, _, NodeAt.box ?_ ?_, (by kcf_all), (by (unfold AboveAll); repeat (first | exact List.forall_mem_nil _ | refine List.forall_mem_cons.mpr ⟨⟨by first | k_qdec | omega, by assumption⟩, ?_⟩)), by assumption⟩ <;> omega)
    | exact hret _ _ _ _ (by k_asm) (by k_asm) ⟨_, _, _, _, _, _, NodeAt.ruleN, (by kcf_all), (by (unfold AboveAll); repeat (first | exact List.forall_mem_nil _ | refine List.forall_mem_cons.mpr ⟨⟨by first | k_qdec | omega, by assumption⟩, ?_⟩)), by assumption⟩
    | exact hret _ _ _ _ (by k_asm) (by k_asm) ⟨_, _, _, _, _, _, NodeAt.ruleI, (by kcf_all), (by (unfold AboveAll); repeat (first | exact List.forall_mem_nil _ | refine List.forall_mem_cons.mpr ⟨⟨by first | k_qdec | omega, by assumption⟩, ?_⟩)), by assumption⟩
    | exact hret _ _ _ _ (by k_asm) (by k_asm) ⟨_, _, _, _, _, _, NodeAt.kern, (by kcf_all), (by (unfold AboveAll); repeat (first | exact List.forall_mem_nil _ | refine List.forall_mem_cons.mpr ⟨⟨by first | k_qdec | omega, by assumption⟩, ?_⟩)), by assumption⟩
    | exact hret _ _ _ _ (by k_asm) (by k_asm) ⟨_, _, _, _, _, _, NodeAt.pen, (by kcf_all), (by (unfold AboveAll); repeat (first | exact List.forall_mem_nil _ | refine List.forall_mem_cons.mpr ⟨⟨by first | k_qdec | omega, by assumption⟩, ?_⟩)), by assumption⟩
    | exact hret _ _ _ _ (by k_asm) (by k_asm) ⟨_, _, _, _, _, _, NodeAt.mark, (by kcf_all), (by (unfold AboveAll); repeat (first | exact List.forall_mem_nil _ | refine List.forall_mem_cons.mpr ⟨⟨by first | k_qdec | omega, by assumption⟩, ?_⟩)), by assumption⟩
    | (refine hret _ _ _ _ (by k_asm) (by k_asm) ⟨_, _, _, _, _, _, NodeAt.skip ?_ ?_ ?_ ?_ ?_ ?_ ?_ ?_, (by kcf_all), (by (unfold AboveAll); repeat (first | exact List.forall_mem_nil _ | refine List.forall_mem_cons.mpr ⟨⟨by first | k_qdec | omega, by assumption⟩, ?_⟩)), by assumption⟩ <;> omega)
def heightF : Nd → Int
  | .box _ _ h _ _ => h
  | .rule _ h _ => h
  | _ => 0
def depthF : Nd → Int
  | .box _ _ _ d _ => d
  | .rule _ _ d => d
  | _ => 0
def acrossF : Nd → Int
  | .box _ wd _ _ sh => wd + sh
  | .rule true _ _ => 7
  | _ => 0
/-- a call that reads the ledger alone -/
def SayN (w : World) (f : Addr) (args : List Value) (new : List (Addr × Obj)) (dD dU : Nat) (R : Value → Prop) : Prop :=
  ∀ led, (∀ p ∈ new, p ∈ led) → Say prog w (hd.heap_1 w.params) f args led dD dU (fun v led' => R v ∧ led' = led)
theorem sayN_use {w : World} {f : Addr} {args : List Value} {new : List (Addr × Obj)} {dD dU : Nat} {R : Value → Prop} {led : List (Addr × Obj)} {p : Program} {loose : List Str} {mean : ExcName → Option Value} {mg mb : Str → Option Value} {dp un : Nat} {gd : Option (List Code)} {cn : Str} {cs : Scope} {ad : Addr} {ccd : Value} {cl : List (Str × Addr)} {outer : List Env} {A₀ : Around} {base h₀ : Heap} {L : Addr} {m : Str → Option Value} {hp₁ : Heap} {gn₁ : Array GenState} {dr₁ : Drawn} {tk₁ : Nat} {os₁ : OsState}
    {Q E : Value → Shared → Prop} (C : SayN w f args new dD dU R) (hs : ∀ p ∈ new, p ∈ led) (B : Below A₀ base outer h₀) (F : Fr h₀ L hp₁ m) (X : (hd.heap_1 w.params).In h₀) (N : News h₀ L hp₁ led) (T : Top p loose mean mg mb h₀) (hk : cs.kind = .function)
    (hd : dp + dD < recursionLimit) (hu : un + dU < cLine)
    (ret : ∀ v h' tk', R v → Fr h₀ L h' m → News h₀ L h' led → Q v (.mk h' gn₁ dr₁ tk' os₁)) :
    wpAny (model prog w) (ktrTop dp un gd cn cs L ad ccd cl outer) (call (.ref f) args) Q E (.mk hp₁ gn₁ dr₁ tk₁ os₁) := by
  refine C led hs p loose mean mg mb dp un gd cn cs ad ccd cl outer A₀ base h₀ L m (.mk hp₁ gn₁ dr₁ tk₁ os₁) Q E B F X N T hk hd hu ?_
  rintro v led' h' tk' F' N' ⟨r, rfl⟩
  exact ret v h' tk' r F' N'
def kindF : Nd → Int
  | .box k _ _ _ _ => k
  | .rule _ _ _ => 4
  | .kern _ => 5
  | .skip _ _ _ _ _ => 6
  | .pen _ => 7
  | .mark => 9
theorem kind_in {P : Params} {v : Value} {nd : Nd} {new : List (Addr × Obj)} (hN : NodeAt P v nd new) : 2 ≤ kindF nd ∧ kindF nd ≤ 9 ∧ kindF nd ≠ 8 := by
  induction hN <;> simp only [kindF] <;> omega
/-- the kind of a part, read as one -/
theorem kind_get {w : World} {v : Value} {nd : Nd} {new led : List (Addr × Obj)} {A : Around} {E : Value → Shared → Prop} {hp₁ : Heap} {gn₁ : Array GenState} {dr₁ : Drawn} {tk₁ : Nat} {os₁ : OsState} {h₀ : Heap} {L : Addr} {m : Str → Option Value} {Q : Value → Shared → Prop} {expr : Bool}
    (hN : NodeAt w.params v nd new) (hs : ∀ p ∈ new, p ∈ led) (F : Fr h₀ L hp₁ m) (X : (hd.heap_1 w.params).In h₀) (N : News h₀ L hp₁ led)
    (h : ∀ t k, Q (.int (kindF nd) t) (.mk hp₁ gn₁ dr₁ k os₁)) : wpAny (model prog w) A (getAttr v (Str.ofString "kind") expr) Q E (.mk hp₁ gn₁ dr₁ tk₁ os₁) := by
  induction hN
  all_goals (simp only [List.forall_mem_cons] at hs)
  case box => 
    obtain ⟨m1, m2, -⟩ := hs
    k_dflt (refine' get_own F X ?k3 ?k4 ?k5 ?k6 ?k7 ?k8 ?k9 ?kh; (case k3 => k_inst); (case k4 => k_is); (case k5 => k_is); (case k6 => k_is); (case k7 => k_is); (case k8 => k_get); (case k9 => k_handed); (case kh => exact h _ _))
  all_goals
    obtain ⟨m1, m2, -⟩ := hs
    k_dflt (refine' get_cls F X ?k3 ?k4 ?k5 ?k6 ?k7 ?k8 ?k9 ?k10 ?kh; (case k3 => k_inst); (case k4 => k_is); (case k5 => k_is); (case k6 => k_is); (case k7 => k_is); (case k8 => k_handed); (case k9 => decide +kernel); (case k10 => k_get); (case kh => exact h _ _))
theorem absurd_kind {nd : Nd} {c : Int} {p : Prop} (h : kindF nd = c) (d : decide (kindF nd = c) = false) : p := absurd h (of_decide_eq_false d)
theorem absurd_le {nd : Nd} {c : Int} {p : Prop} (h : kindF nd ≤ c) (d : decide (kindF nd ≤ c) = false) : p := absurd h (of_decide_eq_false d)
theorem absurd_nle {k wd hh d sh : Int} {p : Prop} (h : ¬ kindF (.box k wd hh d sh) ≤ 3) (hk : k ≤ 3) : p := absurd hk h
theorem absurd_box {k wd hh d sh c : Int} {p : Prop} (h : kindF (.box k wd hh d sh) = c) (hk : k ≤ 3) (e : decide (c ≤ 3) = false) : p := absurd (h ▸ hk : c ≤ 3) (of_decide_eq_false e)
def widthF : Nd → Int
  | .box _ wd _ _ _ => wd
  | _ => 0
def shiftF : Nd → Int
  | .box _ _ _ _ sh => sh
  | _ => 0
section
variable {w : World} {v : Value} {nd : Nd} {new led : List (Addr × Obj)} {A : Around} {E : Value → Shared → Prop} {hp₁ : Heap} {gn₁ : Array GenState} {dr₁ : Drawn} {tk₁ : Nat} {os₁ : OsState} {h₀ : Heap} {L : Addr} {m : Str → Option Value} {Q : Value → Shared → Prop} {expr : Bool}
set_option maxHeartbeats 8000000 in
theorem height_get (hN : NodeAt w.params v nd new) (hs : ∀ p ∈ new, p ∈ led) (F : Fr h₀ L hp₁ m) (X : (hd.heap_1 w.params).In h₀) (N : News h₀ L hp₁ led) (hk : kindF nd ≤ 4)
    (h : ∀ t k, Q (.int (heightF nd) t) (.mk hp₁ gn₁ dr₁ k os₁)) : wpAny (model prog w) A (getAttr v (Str.ofString "height") expr) Q E (.mk hp₁ gn₁ dr₁ tk₁ os₁) := by
  induction hN
  all_goals first | exact absurd_le hk rfl | skip
  all_goals (simp only [List.forall_mem_cons] at hs)
  all_goals
    obtain ⟨m1, m2, -⟩ := hs
    walk1
  all_goals exact h _ _
set_option maxHeartbeats 8000000 in
theorem depth_get (hN : NodeAt w.params v nd new) (hs : ∀ p ∈ new, p ∈ led) (F : Fr h₀ L hp₁ m) (X : (hd.heap_1 w.params).In h₀) (N : News h₀ L hp₁ led) (hk : kindF nd ≤ 4)
    (h : ∀ t k, Q (.int (depthF nd) t) (.mk hp₁ gn₁ dr₁ k os₁)) : wpAny (model prog w) A (getAttr v (Str.ofString "depth") expr) Q E (.mk hp₁ gn₁ dr₁ tk₁ os₁) := by
  induction hN
  all_goals first | exact absurd_le hk rfl | skip
  all_goals (simp only [List.forall_mem_cons] at hs)
  all_goals
    obtain ⟨m1, m2, -⟩ := hs
    walk1
  all_goals exact h _ _
set_option maxHeartbeats 8000000 in
theorem width_get (hN : NodeAt w.params v nd new) (hs : ∀ p ∈ new, p ∈ led) (F : Fr h₀ L hp₁ m) (X : (hd.heap_1 w.params).In h₀) (N : News h₀ L hp₁ led) (hk : kindF nd ≤ 3)
    (h : ∀ t k, Q (.int (widthF nd) t) (.mk hp₁ gn₁ dr₁ k os₁)) : wpAny (model prog w) A (getAttr v (Str.ofString "width") expr) Q E (.mk hp₁ gn₁ dr₁ tk₁ os₁) := by
  induction hN
  all_goals first | exact absurd_le hk rfl | skip
  all_goals (simp only [List.forall_mem_cons] at hs)
  all_goals
    obtain ⟨m1, m2, -⟩ := hs
    walk1
  all_goals exact h _ _
set_option maxHeartbeats 8000000 in
theorem shift_get (hN : NodeAt w.params v nd new) (hs : ∀ p ∈ new, p ∈ led) (F : Fr h₀ L hp₁ m) (X : (hd.heap_1 w.params).In h₀) (N : News h₀ L hp₁ led) (hk : kindF nd ≤ 3)
    (h : ∀ t k, Q (.int (shiftF nd) t) (.mk hp₁ gn₁ dr₁ k os₁)) : wpAny (model prog w) A (getAttr v (Str.ofString "shift") expr) Q E (.mk hp₁ gn₁ dr₁ tk₁ os₁) := by
  induction hN
  all_goals first | exact absurd_le hk rfl | skip
  all_goals (simp only [List.forall_mem_cons] at hs)
  all_goals
    obtain ⟨m1, m2, -⟩ := hs
    walk1
  all_goals exact h _ _
set_option maxHeartbeats 8000000 in
theorem leader_get (hN : NodeAt w.params v nd new) (hs : ∀ p ∈ new, p ∈ led) (F : Fr h₀ L hp₁ m) (X : (hd.heap_1 w.params).In h₀) (N : News h₀ L hp₁ led) (hk : kindF nd = 6)
    (h : ∀ k, Q .none (.mk hp₁ gn₁ dr₁ k os₁)) : wpAny (model prog w) A (getAttr v (Str.ofString "leader") expr) Q E (.mk hp₁ gn₁ dr₁ tk₁ os₁) := by
  induction hN
  all_goals first | exact absurd_kind hk rfl | exact absurd_box hk (by assumption) rfl | skip
  all_goals (simp only [List.forall_mem_cons] at hs)
  all_goals
    obtain ⟨m1, m2, -⟩ := hs
    walk1
  all_goals exact h _
end
theorem kind_le4 {nd : Nd} {c : Int} (h : kindF nd = c) (d : decide (c ≤ 4) = true) : kindF nd ≤ 4 := h ▸ of_decide_eq_true d
theorem kind_le3 {nd : Nd} {c : Int} (h : kindF nd = c) (d : decide (c ≤ 3) = true) : kindF nd ≤ 3 := h ▸ of_decide_eq_true d
theorem across_box {P : Params} {v : Value} {nd : Nd} {new : List (Addr × Obj)} (hN : NodeAt P v nd new) (hk : kindF nd ≤ 3) : acrossF nd = widthF nd + shiftF nd := by
  induction hN <;> first | rfl | exact absurd_le hk rfl
/-- a test of the kind, taken as one -/
inductive BMid (g : Heap) (L : Addr) (m : Str → Option Value) (led : List (Addr × Obj)) (s : Shared) (c b : Bool) (s' : Shared) : Prop where
  | mk : ∀ h tk, s' = { s with heap := h, toks := tk } → b = c → Fr g L h m → News g L h led → BMid g L m led s c b s'
section
variable {P : Params} {M : Model} {A : Around} {E : Value → Shared → Prop} {s : Shared} {z : Sem Bool} {Q : Bool → Shared → Prop} {g : Heap} {L : Addr} {m : Str → Option Value} {led new : List (Addr × Obj)} {v : Value} {nd : Nd}
theorem bool_cut3 (_hN : NodeAt P v nd new) (_F : Fr g L s.heap m) (_N : News g L s.heap led) (h2 : ∀ h tk, Fr g L h m → News g L h led → Q (decide (kindF nd ≤ 3)) { s with heap := h, toks := tk })
    (h1 : wpAny M A z (BMid g L m led s (decide (kindF nd ≤ 3))) E s) : wpAny M A z Q E s :=
  wpAny_mono h1 (fun b s' h => by
    obtain ⟨h, tk, rfl, rfl, F', N'⟩ := h
    exact h2 h tk F' N') fun _ _ e => e
theorem bool_cut4 (_hN : NodeAt P v nd new) (_F : Fr g L s.heap m) (_N : News g L s.heap led) (h2 : ∀ h tk, Fr g L h m → News g L h led → Q (decide (kindF nd ≤ 4)) { s with heap := h, toks := tk })
    (h1 : wpAny M A z (BMid g L m led s (decide (kindF nd ≤ 4))) E s) : wpAny M A z Q E s :=
  wpAny_mono h1 (fun b s' h => by
    obtain ⟨h, tk, rfl, rfl, F', N'⟩ := h
    exact h2 h tk F' N') fun _ _ e => e
theorem bm_t {k c d : Int} (h : k = c) (e : decide (c ≤ d) = true) : true = decide (k ≤ d) := by rw [h, e]
theorem bm_3 (h0 : 2 ≤ kindF nd) (h2 : ¬ kindF nd = 2) (h3 : ¬ kindF nd = 3) : false = decide (kindF nd ≤ 3) := (decide_eq_false (by omega)).symm
theorem bm_4 (h0 : 2 ≤ kindF nd) (h2 : ¬ kindF nd = 2) (h3 : ¬ kindF nd = 3) (h4 : ¬ kindF nd = 4) : false = decide (kindF nd ≤ 4) := (decide_eq_false (by omega)).symm
theorem kind_34 (h : kindF nd ≤ 3) : kindF nd ≤ 4 := Int.le_trans h (by decide)
end
theorem height_zero8 {P : Params} {v : Value} {nd : Nd} {new : List (Addr × Obj)} (hN : NodeAt P v nd new) (h1 : ¬ kindF nd ≤ 3) (h2 : ¬ kindF nd = 4) : heightF nd = 0 := by
  induction hN <;> first | rfl | exact absurd rfl h2 | exact absurd (by assumption) h1
theorem depth_zero8 {P : Params} {v : Value} {nd : Nd} {new : List (Addr × Obj)} (hN : NodeAt P v nd new) (h1 : ¬ kindF nd ≤ 3) (h2 : ¬ kindF nd = 4) : depthF nd = 0 := by
  induction hN <;> first | rfl | exact absurd rfl h2 | exact absurd (by assumption) h1
theorem across_zero {P : Params} {v : Value} {nd : Nd} {new : List (Addr × Obj)} {c : Int} (hN : NodeAt P v nd new) (h : kindF nd = c) (h5 : decide (5 ≤ c) = true) : acrossF nd = 0 := by
  have h6 := of_decide_eq_true h5
  induction hN <;> first | rfl | (exfalso; simp only [kindF] at h; omega)
theorem kind_is9 {P : Params} {v : Value} {nd : Nd} {new : List (Addr × Obj)} (hN : NodeAt P v nd new) (h3 : ¬ kindF nd ≤ 3) (h4 : kindF nd ≠ 4) (h5 : kindF nd ≠ 5) (h6 : kindF nd ≠ 6) (h7 : kindF nd ≠ 7) : kindF nd = 9 := by
  induction hN <;> first | rfl | exact absurd rfl h4 | exact absurd rfl h5 | exact absurd rfl h6 | exact absurd rfl h7 | exact absurd (by assumption) h3
theorem across_zero2 {P : Params} {v : Value} {nd : Nd} {new : List (Addr × Obj)} (hN : NodeAt P v nd new) (h3 : ¬ kindF nd ≤ 3) (h4 : kindF nd ≠ 4) : acrossF nd = 0 := by
  induction hN <;> first | rfl | exact absurd rfl h4 | exact absurd (by assumption) h3
local macro_rules | `(tactic| k_qdec) => `(tactic| with_reducible first | assumption | (refine List.mem_cons_of_mem _ ?_; k_qdec) | (refine List.mem_append.mpr (Or.inr ?_); k_qdec) | (refine List.mem_append.mpr (Or.inl ?_); k_qdec))
set_option maxHeartbeats 8000000 in
theorem height_ (w : World) {v : Value} {nd : Nd} {new : List (Addr × Obj)} (hN : NodeAt w.params v nd new) : SayN w 493 [v] new 2 16 (fun r => ∃ t, r = .int (heightF nd) t) := by
  unfold SayN
  intro led hs
  refine say_in ?_
  intro p loose mean mg mb dp un gd cn cs a ccd cl outer A₀ base h₀ L m hp₀ gn₀ dr₀ tk₀ os₀ Q E B F X N T hk hd hu hret
  obtain ⟨n1, n2, n3⟩ := kind_in hN
  w_on
  refine wpAny_call ?_
  k_dflt ktr_enter
  repeat' (first
    | (k_unfold; (try dsimp only))
    | (k_end; wrow_close)
    | ((fail_if_success (with_reducible show wpAny _ _ _ _ _ _)); with_reducible ((k_dflt (refine' ⟨_, _, ?a_08_11, ?b_08_11, ?c_08_11, ?d_08_11⟩; (case a_08_11 => exact rfl); (case c_08_11 => assumption); (case d_08_11 => assumption); (case b_08_11 => first | exact bm_t (by with_reducible assumption) rfl | exact bm_3 (by with_reducible assumption) (by with_reducible assumption) (by with_reducible assumption) | exact bm_4 (by with_reducible assumption) (by with_reducible assumption) (by with_reducible assumption) (by with_reducible assumption) | (simp only [decide_eq_false_iff_not, decide_eq_true_eq, eq_comm]; omega))))))
    | ((with_reducible show wpAny _ _ (PySem.isTrue (Expr.BoolOp _ _ _) _ _) _ _ _); with_reducible ((k_here; (fail_if_success (with_reducible show wpAny _ _ _ (BMid _ _ _ _ _ _) _ _)); (with_reducible show wpAny _ _ (PySem.isTrue (Expr.BoolOp _ (Expr.Compare _ _ [Expr.Name (Str.ofString "HBOX") _] _ :: _) _) _ _) _ _ _); focus ((first | ((with_reducible show wpAny _ _ (PySem.isTrue (Expr.BoolOp _ [_, _, _, _] _) _ _) _ _ _); refine' bool_cut4 ?kn_08_10 ?k1_08_10 ?k2_08_10 ?_ ?_) | ((with_reducible show wpAny _ _ (PySem.isTrue (Expr.BoolOp _ [_, _, _] _) _ _) _ _ _); refine' bool_cut3 ?kn_08_10 ?k1_08_10 ?k2_08_10 ?_ ?_) | ((with_reducible show wpAny _ _ (PySem.isTrue (Expr.BoolOp _ [_, _] _) _ _) _ _ _); refine' bool_cut3 ?kn_08_10 ?k1_08_10 ?k2_08_10 ?_ ?_)); (case kn_08_10 => with_reducible assumption); (case k1_08_10 => k_asm); (case k2_08_10 => k_asm); (intro h' tk' F' N'; (try k_sweep))))))
    | ((with_reducible show wpAny _ _ (getAttr _ _ _) _ _ _); (fail_if_success (with_reducible show wpAny _ _ (getAttr (Value.ref _) _ _) _ _ _)); (try k_fold); first
      | with_reducible ((k_here; (with_reducible show wpAny _ _ (getAttr _ (Str.ofString "leader") _) _ _ _); k_dflt (refine' leader_get ?k1_08_9 ?k2_08_9 ?k3_08_9 ?k4_08_9 ?k5_08_9 ?k6_08_9 ?_; (case k1_08_9 => with_reducible assumption); (case k3_08_9 => k_asm); (case k4_08_9 => k_asm); (case k5_08_9 => k_asm); (case k6_08_9 => first | with_reducible assumption | with_reducible assumption); (case k2_08_9 => first | with_reducible assumption | (intro p9 hp9; (with_reducible rename ∀ p ∈ _, p ∈ _ => hs9); (have h9 := hs9 p9 hp9); k_qdec)); k_whole); intro t'))
      | with_reducible ((k_here; (with_reducible show wpAny _ _ (getAttr _ (Str.ofString "shift") _) _ _ _); k_dflt (refine' shift_get ?k1_08_8 ?k2_08_8 ?k3_08_8 ?k4_08_8 ?k5_08_8 ?k6_08_8 ?_; (case k1_08_8 => with_reducible assumption); (case k3_08_8 => k_asm); (case k4_08_8 => k_asm); (case k5_08_8 => k_asm); (case k6_08_8 => first | with_reducible assumption | exact kind_le3 (by with_reducible assumption) rfl); (case k2_08_8 => first | with_reducible assumption | (intro p9 hp9; (with_reducible rename ∀ p ∈ _, p ∈ _ => hs9); (have h9 := hs9 p9 hp9); k_qdec)); k_whole); intro t' k'))
      | with_reducible ((k_here; (with_reducible show wpAny _ _ (getAttr _ (Str.ofString "width") _) _ _ _); k_dflt (refine' width_get ?k1_08_7 ?k2_08_7 ?k3_08_7 ?k4_08_7 ?k5_08_7 ?k6_08_7 ?_; (case k1_08_7 => with_reducible assumption); (case k3_08_7 => k_asm); (case k4_08_7 => k_asm); (case k5_08_7 => k_asm); (case k6_08_7 => first | with_reducible assumption | exact kind_le3 (by with_reducible assumption) rfl); (case k2_08_7 => first | with_reducible assumption | (intro p9 hp9; (with_reducible rename ∀ p ∈ _, p ∈ _ => hs9); (have h9 := hs9 p9 hp9); k_qdec)); k_whole); intro t' k'))
      | with_reducible ((k_here; (with_reducible show wpAny _ _ (getAttr _ (Str.ofString "depth") _) _ _ _); k_dflt (refine' depth_get ?k1_08_6 ?k2_08_6 ?k3_08_6 ?k4_08_6 ?k5_08_6 ?k6_08_6 ?_; (case k1_08_6 => with_reducible assumption); (case k3_08_6 => k_asm); (case k4_08_6 => k_asm); (case k5_08_6 => k_asm); (case k6_08_6 => first | with_reducible assumption | exact kind_34 (by with_reducible assumption) | exact kind_le4 (by with_reducible assumption) rfl); (case k2_08_6 => first | with_reducible assumption | (intro p9 hp9; (with_reducible rename ∀ p ∈ _, p ∈ _ => hs9); (have h9 := hs9 p9 hp9); k_qdec)); k_whole); intro t' k'))
      | with_reducible ((k_here; (with_reducible show wpAny _ _ (getAttr _ (Str.ofString "height") _) _ _ _); k_dflt (refine' height_get ?k1_08_5 ?k2_08_5 ?k3_08_5 ?k4_08_5 ?k5_08_5 ?k6_08_5 ?_; (case k1_08_5 => with_reducible assumption); (case k3_08_5 => k_asm); (case k4_08_5 => k_asm); (case k5_08_5 => k_asm); (case k6_08_5 => first | with_reducible assumption | exact kind_34 (by with_reducible assumption) | exact kind_le4 (by with_reducible assumption) rfl); (case k2_08_5 => first | with_reducible assumption | (intro p9 hp9; (with_reducible rename ∀ p ∈ _, p ∈ _ => hs9); (have h9 := hs9 p9 hp9); k_qdec)); k_whole); intro t' k'))
      | with_reducible ((k_here; (with_reducible show wpAny _ _ (getAttr _ (Str.ofString "kind") _) _ _ _); k_dflt (refine' kind_get ?k1_08_4 ?k2_08_4 ?k3_08_4 ?k4_08_4 ?k5_08_4 ?_; (case k1_08_4 => with_reducible assumption); (case k3_08_4 => k_asm); (case k4_08_4 => k_asm); (case k5_08_4 => k_asm); (case k2_08_4 => first | with_reducible assumption | (intro p9 hp9; (with_reducible rename ∀ p ∈ _, p ∈ _ => hs9); (have h9 := hs9 p9 hp9); k_mem)); k_whole); intro t' k'))
      | with_reducible ((k_here; (with_reducible rename NodeAt _ _ _ _ => hN9); (with_reducible rename ∀ p ∈ _, p ∈ _ => hs9); (have hNc := hN9); (have hsc := hs9); (first | induction hN9 | cases hN9) <;> first | exact absurd_kind (by with_reducible assumption) rfl | exact absurd_le (by with_reducible assumption) rfl | exact absurd_box (by with_reducible assumption) (by with_reducible assumption) rfl | exact absurd_nle (by with_reducible assumption) (by with_reducible assumption) | (exfalso; simp only [kindF] at *; omega) | (simp only [List.forall_mem_cons] at hs9; obtain ⟨m1', m2', m3'⟩ := hs9; (try (obtain ⟨m4', m5', -⟩ := m3'))))))
    | ((with_reducible show wpAny _ _ (eval (Expr.Name _ _) _) _ _ _); with_reducible (k_dflt (first | ((with_reducible show wpAny _ _ (eval (Expr.Name _ _) (envOf _ _ _ _ _)) _ _ _); first | (refine' ld ?k1_08_2 ?k2_08_2 ?_ (hk := rfl) (hl := ?kl_08_2) (hd := ?kd_08_2); (case kl_08_2 => kernel_rfl); (case k1_08_2 => with_reducible assumption); (case k2_08_2 => exact rfl); (case kd_08_2 => decide +kernel)) | (refine' name_K ?kF_08_2 ?k1_08_2 ?k2_08_2 ?k3_08_2 ?_ (hk := rfl) (hx := ?kl_08_2) (hd := ?kd_08_2); (case kF_08_2 => with_reducible assumption); (case k1_08_2 => with_reducible assumption); (case k2_08_2 => k_asm); (case k3_08_2 => k_is); (case kl_08_2 => kernel_rfl); (case kd_08_2 => decide +kernel); k_whole)))))
    | ((with_reducible show ite _ _ _); first
      | with_reducible ((k_closed; k_dflt (first | refine ite_pos (by decide) ?_ | refine ite_neg (by decide) ?_)))
      | with_reducible ((k_here; k_openite; k_spoken; first | (refine ite_pos (by first | omega | (simp only [decide_eq_true_eq, beq_iff_eq, bne_iff_ne, ne_eq]; omega)) ?_; walk_say "DECIDED") | (refine ite_neg (by first | omega | (simp only [decide_eq_true_eq, beq_iff_eq, bne_iff_ne, ne_eq]; omega)) ?_; walk_say "DECIDED"))))
    | walk1
    | (dsimp only; walk1)
    | (leave1; walk_say "STEP leave1"; try dsimp only)
    | fail "no step")
  all_goals first
    | exact hret _ _ _ _ (by k_asm) (by k_asm) ⟨⟨_, rfl⟩, rfl⟩
    | exact hret _ _ _ _ (by k_asm) (by k_asm) ⟨⟨_, by rw [height_zero8 hN (by assumption) (by assumption)]⟩, rfl⟩
    | ((have e9 : heightF nd = 0 := by induction hN <;> first | rfl | (exfalso; simp only [kindF] at *; omega)); exact hret _ _ _ _ (by k_asm) (by k_asm) ⟨⟨_, by rw [e9]⟩, rfl⟩)
set_option maxHeartbeats 8000000 in
theorem depth_ (w : World) {v : Value} {nd : Nd} {new : List (Addr × Obj)} (hN : NodeAt w.params v nd new) : SayN w 498 [v] new 2 16 (fun r => ∃ t, r = .int (depthF nd) t) := by
  unfold SayN
  intro led hs
  refine say_in ?_
  intro p loose mean mg mb dp un gd cn cs a ccd cl outer A₀ base h₀ L m hp₀ gn₀ dr₀ tk₀ os₀ Q E B F X N T hk hd hu hret
  obtain ⟨n1, n2, n3⟩ := kind_in hN
  w_on
  refine wpAny_call ?_
  k_dflt ktr_enter
  repeat' (first
    | (k_unfold; (try dsimp only))
    | (k_end; wrow_close)
    | ((fail_if_success (with_reducible show wpAny _ _ _ _ _ _)); with_reducible ((k_dflt (refine' ⟨_, _, ?a_08_11, ?b_08_11, ?c_08_11, ?d_08_11⟩; (case a_08_11 => exact rfl); (case c_08_11 => assumption); (case d_08_11 => assumption); (case b_08_11 => first | exact bm_t (by with_reducible assumption) rfl | exact bm_3 (by with_reducible assumption) (by with_reducible assumption) (by with_reducible assumption) | exact bm_4 (by with_reducible assumption) (by with_reducible assumption) (by with_reducible assumption) (by with_reducible assumption) | (simp only [decide_eq_false_iff_not, decide_eq_true_eq, eq_comm]; omega))))))
    | ((with_reducible show wpAny _ _ (PySem.isTrue (Expr.BoolOp _ _ _) _ _) _ _ _); with_reducible ((k_here; (fail_if_success (with_reducible show wpAny _ _ _ (BMid _ _ _ _ _ _) _ _)); (with_reducible show wpAny _ _ (PySem.isTrue (Expr.BoolOp _ (Expr.Compare _ _ [Expr.Name (Str.ofString "HBOX") _] _ :: _) _) _ _) _ _ _); focus ((first | ((with_reducible show wpAny _ _ (PySem.isTrue (Expr.BoolOp _ [_, _, _, _] _) _ _) _ _ _); refine' bool_cut4 ?kn_08_10 ?k1_08_10 ?k2_08_10 ?_ ?_) | ((with_reducible show wpAny _ _ (PySem.isTrue (Expr.BoolOp _ [_, _, _] _) _ _) _ _ _); refine' bool_cut3 ?kn_08_10 ?k1_08_10 ?k2_08_10 ?_ ?_) | ((with_reducible show wpAny _ _ (PySem.isTrue (Expr.BoolOp _ [_, _] _) _ _) _ _ _); refine' bool_cut3 ?kn_08_10 ?k1_08_10 ?k2_08_10 ?_ ?_)); (case kn_08_10 => with_reducible assumption); (case k1_08_10 => k_asm); (case k2_08_10 => k_asm); (intro h' tk' F' N'; (try k_sweep))))))
    | ((with_reducible show wpAny _ _ (getAttr _ _ _) _ _ _); (fail_if_success (with_reducible show wpAny _ _ (getAttr (Value.ref _) _ _) _ _ _)); (try k_fold); first
      | with_reducible ((k_here; (with_reducible show wpAny _ _ (getAttr _ (Str.ofString "leader") _) _ _ _); k_dflt (refine' leader_get ?k1_08_9 ?k2_08_9 ?k3_08_9 ?k4_08_9 ?k5_08_9 ?k6_08_9 ?_; (case k1_08_9 => with_reducible assumption); (case k3_08_9 => k_asm); (case k4_08_9 => k_asm); (case k5_08_9 => k_asm); (case k6_08_9 => first | with_reducible assumption | with_reducible assumption); (case k2_08_9 => first | with_reducible assumption | (intro p9 hp9; (with_reducible rename ∀ p ∈ _, p ∈ _ => hs9); (have h9 := hs9 p9 hp9); k_qdec)); k_whole); intro t'))
      | with_reducible ((k_here; (with_reducible show wpAny _ _ (getAttr _ (Str.ofString "shift") _) _ _ _); k_dflt (refine' shift_get ?k1_08_8 ?k2_08_8 ?k3_08_8 ?k4_08_8 ?k5_08_8 ?k6_08_8 ?_; (case k1_08_8 => with_reducible assumption); (case k3_08_8 => k_asm); (case k4_08_8 => k_asm); (case k5_08_8 => k_asm); (case k6_08_8 => first | with_reducible assumption | exact kind_le3 (by with_reducible assumption) rfl); (case k2_08_8 => first | with_reducible assumption | (intro p9 hp9; (with_reducible rename ∀ p ∈ _, p ∈ _ => hs9); (have h9 := hs9 p9 hp9); k_qdec)); k_whole); intro t' k'))
      | with_reducible ((k_here; (with_reducible show wpAny _ _ (getAttr _ (Str.ofString "width") _) _ _ _); k_dflt (refine' width_get ?k1_08_7 ?k2_08_7 ?k3_08_7 ?k4_08_7 ?k5_08_7 ?k6_08_7 ?_; (case k1_08_7 => with_reducible assumption); (case k3_08_7 => k_asm); (case k4_08_7 => k_asm); (case k5_08_7 => k_asm); (case k6_08_7 => first | with_reducible assumption | exact kind_le3 (by with_reducible assumption) rfl); (case k2_08_7 => first | with_reducible assumption | (intro p9 hp9; (with_reducible rename ∀ p ∈ _, p ∈ _ => hs9); (have h9 := hs9 p9 hp9); k_qdec)); k_whole); intro t' k'))
      | with_reducible ((k_here; (with_reducible show wpAny _ _ (getAttr _ (Str.ofString "depth") _) _ _ _); k_dflt (refine' depth_get ?k1_08_6 ?k2_08_6 ?k3_08_6 ?k4_08_6 ?k5_08_6 ?k6_08_6 ?_; (case k1_08_6 => with_reducible assumption); (case k3_08_6 => k_asm); (case k4_08_6 => k_asm); (case k5_08_6 => k_asm); (case k6_08_6 => first | with_reducible assumption | exact kind_34 (by with_reducible assumption) | exact kind_le4 (by with_reducible assumption) rfl); (case k2_08_6 => first | with_reducible assumption | (intro p9 hp9; (with_reducible rename ∀ p ∈ _, p ∈ _ => hs9); (have h9 := hs9 p9 hp9); k_qdec)); k_whole); intro t' k'))
      | with_reducible ((k_here; (with_reducible show wpAny _ _ (getAttr _ (Str.ofString "height") _) _ _ _); k_dflt (refine' height_get ?k1_08_5 ?k2_08_5 ?k3_08_5 ?k4_08_5 ?k5_08_5 ?k6_08_5 ?_; (case k1_08_5 => with_reducible assumption); (case k3_08_5 => k_asm); (case k4_08_5 => k_asm); (case k5_08_5 => k_asm); (case k6_08_5 => first | with_reducible assumption | exact kind_34 (by with_reducible assumption) | exact kind_le4 (by with_reducible assumption) rfl); (case k2_08_5 => first | with_reducible assumption | (intro p9 hp9; (with_reducible rename ∀ p ∈ _, p ∈ _ => hs9); (have h9 := hs9 p9 hp9); k_qdec)); k_whole); intro t' k'))
      | with_reducible ((k_here; (with_reducible show wpAny _ _ (getAttr _ (Str.ofString "kind") _) _ _ _); k_dflt (refine' kind_get ?k1_08_4 ?k2_08_4 ?k3_08_4 ?k4_08_4 ?k5_08_4 ?_; (case k1_08_4 => with_reducible assumption); (case k3_08_4 => k_asm); (case k4_08_4 => k_asm); (case k5_08_4 => k_asm); (case k2_08_4 => first | with_reducible assumption | (intro p9 hp9; (with_reducible rename ∀ p ∈ _, p ∈ _ => hs9); (have h9 := hs9 p9 hp9); k_mem)); k_whole); intro t' k'))
      | with_reducible ((k_here; (with_reducible rename NodeAt _ _ _ _ => hN9); (with_reducible rename ∀ p ∈ _, p ∈ _ => hs9); (have hNc := hN9); (have hsc := hs9); (first | induction hN9 | cases hN9) <;> first | exact absurd_kind (by with_reducible assumption) rfl | exact absurd_le (by with_reducible assumption) rfl | exact absurd_box (by with_reducible assumption) (by with_reducible assumption) rfl | exact absurd_nle (by with_reducible assumption) (by with_reducible assumption) | (exfalso; simp only [kindF] at *; omega) | (simp only [List.forall_mem_cons] at hs9; obtain ⟨m1', m2', m3'⟩ := hs9; (try (obtain ⟨m4', m5', -⟩ := m3'))))))
    | ((with_reducible show wpAny _ _ (eval (Expr.Name _ _) _) _ _ _); with_reducible (k_dflt (first | ((with_reducible show wpAny _ _ (eval (Expr.Name _ _) (envOf _ _ _ _ _)) _ _ _); first | (refine' ld ?k1_08_2 ?k2_08_2 ?_ (hk := rfl) (hl := ?kl_08_2) (hd := ?kd_08_2); (case kl_08_2 => kernel_rfl); (case k1_08_2 => with_reducible assumption); (case k2_08_2 => exact rfl); (case kd_08_2 => decide +kernel)) | (refine' name_K ?kF_08_2 ?k1_08_2 ?k2_08_2 ?k3_08_2 ?_ (hk := rfl) (hx := ?kl_08_2) (hd := ?kd_08_2); (case kF_08_2 => with_reducible assumption); (case k1_08_2 => with_reducible assumption); (case k2_08_2 => k_asm); (case k3_08_2 => k_is); (case kl_08_2 => kernel_rfl); (case kd_08_2 => decide +kernel); k_whole)))))
    | ((with_reducible show ite _ _ _); first
      | with_reducible ((k_closed; k_dflt (first | refine ite_pos (by decide) ?_ | refine ite_neg (by decide) ?_)))
      | with_reducible ((k_here; k_openite; k_spoken; first | (refine ite_pos (by first | omega | (simp only [decide_eq_true_eq, beq_iff_eq, bne_iff_ne, ne_eq]; omega)) ?_; walk_say "DECIDED") | (refine ite_neg (by first | omega | (simp only [decide_eq_true_eq, beq_iff_eq, bne_iff_ne, ne_eq]; omega)) ?_; walk_say "DECIDED"))))
    | walk1
    | (dsimp only; walk1)
    | (leave1; walk_say "STEP leave1"; try dsimp only)
    | fail "no step")
  all_goals first
    | exact hret _ _ _ _ (by k_asm) (by k_asm) ⟨⟨_, rfl⟩, rfl⟩
    | exact hret _ _ _ _ (by k_asm) (by k_asm) ⟨⟨_, by rw [depth_zero8 hN (by assumption) (by assumption)]⟩, rfl⟩
    | ((have e9 : depthF nd = 0 := by induction hN <;> first | rfl | (exfalso; simp only [kindF] at *; omega)); exact hret _ _ _ _ (by k_asm) (by k_asm) ⟨⟨_, by rw [e9]⟩, rfl⟩)
set_option maxHeartbeats 8000000 in
theorem across_ (w : World) {v : Value} {nd : Nd} {new : List (Addr × Obj)} (hN : NodeAt w.params v nd new) : SayN w 534 [v] new 4 32 (fun r => ∃ t, r = .int (acrossF nd) t) := by
  unfold SayN
  intro led hs
  refine say_in ?_
  intro p loose mean mg mb dp un gd cn cs a ccd cl outer A₀ base h₀ L m hp₀ gn₀ dr₀ tk₀ os₀ Q E B F X N T hk hd hu hret
  obtain ⟨n1, n2, n3⟩ := kind_in hN
  w_on
  refine wpAny_call ?_
  k_dflt ktr_enter
  repeat' (first
    | (k_unfold; (try dsimp only))
    | (k_end; wrow_close)
    | ((fail_if_success (with_reducible show wpAny _ _ _ _ _ _)); with_reducible ((k_dflt (refine' ⟨_, _, ?a_08_11, ?b_08_11, ?c_08_11, ?d_08_11⟩; (case a_08_11 => exact rfl); (case c_08_11 => assumption); (case d_08_11 => assumption); (case b_08_11 => first | exact bm_t (by with_reducible assumption) rfl | exact bm_3 (by with_reducible assumption) (by with_reducible assumption) (by with_reducible assumption) | exact bm_4 (by with_reducible assumption) (by with_reducible assumption) (by with_reducible assumption) (by with_reducible assumption) | (simp only [decide_eq_false_iff_not, decide_eq_true_eq, eq_comm]; omega))))))
    | ((with_reducible show wpAny _ _ (PySem.isTrue (Expr.BoolOp _ _ _) _ _) _ _ _); with_reducible ((k_here; (fail_if_success (with_reducible show wpAny _ _ _ (BMid _ _ _ _ _ _) _ _)); (with_reducible show wpAny _ _ (PySem.isTrue (Expr.BoolOp _ (Expr.Compare _ _ [Expr.Name (Str.ofString "HBOX") _] _ :: _) _) _ _) _ _ _); focus ((first | ((with_reducible show wpAny _ _ (PySem.isTrue (Expr.BoolOp _ [_, _, _, _] _) _ _) _ _ _); refine' bool_cut4 ?kn_08_10 ?k1_08_10 ?k2_08_10 ?_ ?_) | ((with_reducible show wpAny _ _ (PySem.isTrue (Expr.BoolOp _ [_, _, _] _) _ _) _ _ _); refine' bool_cut3 ?kn_08_10 ?k1_08_10 ?k2_08_10 ?_ ?_) | ((with_reducible show wpAny _ _ (PySem.isTrue (Expr.BoolOp _ [_, _] _) _ _) _ _ _); refine' bool_cut3 ?kn_08_10 ?k1_08_10 ?k2_08_10 ?_ ?_)); (case kn_08_10 => with_reducible assumption); (case k1_08_10 => k_asm); (case k2_08_10 => k_asm); (intro h' tk' F' N'; (try k_sweep))))))
    | ((with_reducible show wpAny _ _ (getAttr _ _ _) _ _ _); (fail_if_success (with_reducible show wpAny _ _ (getAttr (Value.ref _) _ _) _ _ _)); (try k_fold); first
      | with_reducible ((k_here; (with_reducible show wpAny _ _ (getAttr _ (Str.ofString "leader") _) _ _ _); k_dflt (refine' leader_get ?k1_08_9 ?k2_08_9 ?k3_08_9 ?k4_08_9 ?k5_08_9 ?k6_08_9 ?_; (case k1_08_9 => with_reducible assumption); (case k3_08_9 => k_asm); (case k4_08_9 => k_asm); (case k5_08_9 => k_asm); (case k6_08_9 => first | with_reducible assumption | with_reducible assumption); (case k2_08_9 => first | with_reducible assumption | (intro p9 hp9; (with_reducible rename ∀ p ∈ _, p ∈ _ => hs9); (have h9 := hs9 p9 hp9); k_qdec)); k_whole); intro t'))
      | with_reducible ((k_here; (with_reducible show wpAny _ _ (getAttr _ (Str.ofString "shift") _) _ _ _); k_dflt (refine' shift_get ?k1_08_8 ?k2_08_8 ?k3_08_8 ?k4_08_8 ?k5_08_8 ?k6_08_8 ?_; (case k1_08_8 => with_reducible assumption); (case k3_08_8 => k_asm); (case k4_08_8 => k_asm); (case k5_08_8 => k_asm); (case k6_08_8 => first | with_reducible assumption | exact kind_le3 (by with_reducible assumption) rfl); (case k2_08_8 => first | with_reducible assumption | (intro p9 hp9; (with_reducible rename ∀ p ∈ _, p ∈ _ => hs9); (have h9 := hs9 p9 hp9); k_qdec)); k_whole); intro t' k'))
      | with_reducible ((k_here; (with_reducible show wpAny _ _ (getAttr _ (Str.ofString "width") _) _ _ _); k_dflt (refine' width_get ?k1_08_7 ?k2_08_7 ?k3_08_7 ?k4_08_7 ?k5_08_7 ?k6_08_7 ?_; (case k1_08_7 => with_reducible assumption); (case k3_08_7 => k_asm); (case k4_08_7 => k_asm); (case k5_08_7 => k_asm); (case k6_08_7 => first | with_reducible assumption | exact kind_le3 (by with_reducible assumption) rfl); (case k2_08_7 => first | with_reducible assumption | (intro p9 hp9; (with_reducible rename ∀ p ∈ _, p ∈ _ => hs9); (have h9 := hs9 p9 hp9); k_qdec)); k_whole); intro t' k'))
      | with_reducible ((k_here; (with_reducible show wpAny _ _ (getAttr _ (Str.ofString "depth") _) _ _ _); k_dflt (refine' depth_get ?k1_08_6 ?k2_08_6 ?k3_08_6 ?k4_08_6 ?k5_08_6 ?k6_08_6 ?_; (case k1_08_6 => with_reducible assumption); (case k3_08_6 => k_asm); (case k4_08_6 => k_asm); (case k5_08_6 => k_asm); (case k6_08_6 => first | with_reducible assumption | exact kind_34 (by with_reducible assumption) | exact kind_le4 (by with_reducible assumption) rfl); (case k2_08_6 => first | with_reducible assumption | (intro p9 hp9; (with_reducible rename ∀ p ∈ _, p ∈ _ => hs9); (have h9 := hs9 p9 hp9); k_qdec)); k_whole); intro t' k'))
      | with_reducible ((k_here; (with_reducible show wpAny _ _ (getAttr _ (Str.ofString "height") _) _ _ _); k_dflt (refine' height_get ?k1_08_5 ?k2_08_5 ?k3_08_5 ?k4_08_5 ?k5_08_5 ?k6_08_5 ?_; (case k1_08_5 => with_reducible assumption); (case k3_08_5 => k_asm); (case k4_08_5 => k_asm); (case k5_08_5 => k_asm); (case k6_08_5 => first | with_reducible assumption | exact kind_34 (by with_reducible assumption) | exact kind_le4 (by with_reducible assumption) rfl); (case k2_08_5 => first | with_reducible assumption | (intro p9 hp9; (with_reducible rename ∀ p ∈ _, p ∈ _ => hs9); (have h9 := hs9 p9 hp9); k_qdec)); k_whole); intro t' k'))
      | with_reducible ((k_here; (with_reducible show wpAny _ _ (getAttr _ (Str.ofString "kind") _) _ _ _); k_dflt (refine' kind_get ?k1_08_4 ?k2_08_4 ?k3_08_4 ?k4_08_4 ?k5_08_4 ?_; (case k1_08_4 => with_reducible assumption); (case k3_08_4 => k_asm); (case k4_08_4 => k_asm); (case k5_08_4 => k_asm); (case k2_08_4 => first | with_reducible assumption | (intro p9 hp9; (with_reducible rename ∀ p ∈ _, p ∈ _ => hs9); (have h9 := hs9 p9 hp9); k_mem)); k_whole); intro t' k'))
      | with_reducible ((k_here; (with_reducible rename NodeAt _ _ _ _ => hN9); (with_reducible rename ∀ p ∈ _, p ∈ _ => hs9); (have hNc := hN9); (have hsc := hs9); (first | induction hN9 | cases hN9) <;> first | exact absurd_kind (by with_reducible assumption) rfl | exact absurd_le (by with_reducible assumption) rfl | exact absurd_box (by with_reducible assumption) (by with_reducible assumption) rfl | exact absurd_nle (by with_reducible assumption) (by with_reducible assumption) | (exfalso; simp only [kindF] at *; omega) | (simp only [List.forall_mem_cons] at hs9; obtain ⟨m1', m2', m3'⟩ := hs9; (try (obtain ⟨m4', m5', -⟩ := m3'))))))
    | ((with_reducible show wpAny _ _ (eval (Expr.Name _ _) _) _ _ _); with_reducible (k_dflt (first | ((with_reducible show wpAny _ _ (eval (Expr.Name _ _) (envOf _ _ _ _ _)) _ _ _); first | (refine' ld ?k1_08_2 ?k2_08_2 ?_ (hk := rfl) (hl := ?kl_08_2) (hd := ?kd_08_2); (case kl_08_2 => kernel_rfl); (case k1_08_2 => with_reducible assumption); (case k2_08_2 => exact rfl); (case kd_08_2 => decide +kernel)) | (refine' name_K ?kF_08_2 ?k1_08_2 ?k2_08_2 ?k3_08_2 ?_ (hk := rfl) (hx := ?kl_08_2) (hd := ?kd_08_2); (case kF_08_2 => with_reducible assumption); (case k1_08_2 => with_reducible assumption); (case k2_08_2 => k_asm); (case k3_08_2 => k_is); (case kl_08_2 => kernel_rfl); (case kd_08_2 => decide +kernel); k_whole)))))
    | ((with_reducible show ite _ _ _); first
      | with_reducible ((k_closed; k_dflt (first | refine ite_pos (by decide) ?_ | refine ite_neg (by decide) ?_)))
      | with_reducible ((k_here; k_openite; k_spoken; first | (refine ite_pos (by first | omega | (simp only [decide_eq_true_eq, beq_iff_eq, bne_iff_ne, ne_eq]; omega)) ?_; walk_say "DECIDED") | (refine ite_neg (by first | omega | (simp only [decide_eq_true_eq, beq_iff_eq, bne_iff_ne, ne_eq]; omega)) ?_; walk_say "DECIDED"))))
    | walk1
    | (dsimp only; walk1)
    | (leave1; walk_say "STEP leave1"; try dsimp only)
    | fail "no step")
  all_goals first
    | exact hret _ _ _ _ (by k_asm) (by k_asm) ⟨⟨_, rfl⟩, rfl⟩
    | exact hret _ _ _ _ (by k_asm) (by k_asm) ⟨⟨_, by rw [across_box hN (by first | assumption | exact kind_le3 (by assumption) rfl)]⟩, rfl⟩
    | exact hret _ _ _ _ (by k_asm) (by k_asm) ⟨⟨_, by rw [across_zero2 hN (by assumption) (by assumption)]⟩, rfl⟩
    | exact hret _ _ _ _ (by k_asm) (by k_asm) ⟨⟨_, by rw [across_zero hN (by assumption) rfl]⟩, rfl⟩
section
variable {prog : Program} {w : World} {A : Around} {E : Value → Shared → Prop} {s : Shared} {env : Env} {h₀ : Heap} {x : Str} {body : List Stmt} {Q : Flow → Shared → Prop}
/-- a loop over a made list that stores no name but its own and leaves the ledger as it is -/
theorem list_plain {l : Addr} {vs : List Value} {nn : Nat} {m₀ : Str → Option Value} {news : List (Addr × Obj)}
    (hh : A.handled = none) (F : Fr h₀ env.locals s.heap m₀) (N : News h₀ env.locals s.heap news) (hl : (l, listOf vs.toArray nn) ∈ news)
    (turn : ∀ v h tk own, v ∈ vs → Fr h₀ env.locals h (fun y => if y = x then some v else m₀ y) → News h₀ env.locals h (news ++ own) →
      wpAny (model prog w) A (execs body env) (TupEnd h₀ env.locals (fun m' => ∀ z, z ≠ x → m' z = m₀ z) (news ++ own) { s with heap := h, toks := tk } Q) E { s with heap := h, toks := tk })
    (done : ∀ (u : Str → Option Value) h tk, Fr h₀ env.locals h (fun y => if y = x then u y else m₀ y) → News h₀ env.locals h news → Q .next { s with heap := h, toks := tk }) :
    wpAny (model prog w) A (pyIter (.ref l)) (fun it s₂ => LoopAtV prog w A h₀ env x body Q E it s₂) E s := by
  refine kdl_iter (fun _ m nx => nx = news ∧ ∀ z, z ≠ x → m z = m₀ z) hh hl F N ⟨rfl, fun _ _ => rfl⟩ ?_ ?_
  · rintro i v m₁ nx h tk own hv hoff hl₁ ⟨e, hm⟩ F₁ N₁
    subst e
    have e : (fun y => if y = x then some v else m₁ y) = fun y => if y = x then some v else m₀ y := by
      funext y
      by_cases h1 : y = x
      · rw [if_pos h1, if_pos h1]
      · rw [if_neg h1, if_neg h1, hm y h1]
    rw [e] at F₁
    refine wpAny_mono (turn v h tk own (List.mem_of_getElem? hv) F₁ N₁) (fun f s₂ hf => ?_) fun _ _ e => e
    have fin : (∃ h' tk' m', s₂ = { s with heap := h', toks := tk' } ∧ Fr h₀ env.locals h' m' ∧ News h₀ env.locals h' (nx ++ own) ∧ ∀ z, z ≠ x → m' z = m₀ z) →
        InvEndG h₀ env.locals (fun m' nx' => (l, listOf vs.toArray nn) ∈ nx' ∧ nx' = nx ∧ ∀ z, z ≠ x → m' z = m₀ z) own { s with heap := h, toks := tk } s₂ := by
      rintro ⟨h', tk', m', e', F', N', hJ'⟩
      exact ⟨h', tk', m', nx ++ own, nx, e', F', N', fun p hp => List.mem_append_left _ hp, fun p hp => List.mem_append_right _ hp, hoff, hl₁, rfl, hJ'⟩
    cases f with
    | ret v => exact hf
    | brk => exact hf
    | next => exact fin hf
    | cont => exact fin hf
  · rintro m₁ nx h tk ⟨e, hm⟩ F₁ N₁
    subst e
    refine done m₁ h tk ?_ N₁
    have e : (fun y => if y = x then m₁ y else m₀ y) = m₁ := by
      funext y
      by_cases h1 : y = x
      · rw [if_pos h1]
      · rw [if_neg h1, hm y h1]
    rw [e]; exact F₁
/-- the end of a turn of a loop that keeps a state: two names, a part of the ledger -/
def StEnd {σ : Type} (h₀ : Heap) (L : Addr) (Led : σ → List (Addr × Obj)) (cst : List (Addr × Obj)) (x x1 x2 : Str) (f1 f2 : σ → Value) (m₀ : Str → Option Value) (Inv : σ → Prop) (s₁ : Shared) (Q : Flow → Shared → Prop) (f : Flow) (s₂ : Shared) : Prop :=
  match f with
  | .ret v => Q (.ret v) s₂
  | .brk => Q .next s₂
  | _ => ∃ h' tk m' c, s₂ = { s₁ with heap := h', toks := tk } ∧ Fr h₀ L h' m' ∧ News h₀ L h' (Led c ++ cst) ∧ m' x1 = some (f1 c) ∧ m' x2 = some (f2 c) ∧ (∀ z, z ≠ x → z ≠ x1 → z ≠ x2 → m' z = m₀ z) ∧ Inv c
theorem items_loop {σ : Type} {l : Addr} {vs : List Value} {nn : Nat} {m₀ : Str → Option Value} {cst : List (Addr × Obj)} (Led : σ → List (Addr × Obj)) (adr : List Addr) (x1 x2 : Str) (f1 f2 : σ → Value) (Inv : Nat → σ → Prop) (c₀ : σ)
    (hh : A.handled = none) (F : Fr h₀ env.locals s.heap m₀) (N : News h₀ env.locals s.heap (Led c₀ ++ cst)) (hl : (l, listOf vs.toArray nn) ∈ cst) (hadr : ∀ c, (Led c).map (·.1) = adr)
    (h1 : m₀ x1 = some (f1 c₀)) (h2 : m₀ x2 = some (f2 c₀)) (hi : Inv 0 c₀)
    (turn : ∀ i v c h tk own, vs[i]? = some v → Inv i c → OwnOff own adr → (∀ q ∈ cst, ∀ p ∈ own, p.1 ≠ q.1) →
      Fr h₀ env.locals h (fun y => if y = x then some v else if y = x1 then some (f1 c) else if y = x2 then some (f2 c) else m₀ y) → News h₀ env.locals h (Led c ++ (cst ++ own)) →
      wpAny (model prog w) A (execs body env) (StEnd h₀ env.locals Led (cst ++ own) x x1 x2 f1 f2 m₀ (Inv (i + 1)) { s with heap := h, toks := tk } Q) E { s with heap := h, toks := tk })
    (done : ∀ c (u : Str → Option Value) h tk, Inv vs.length c → Fr h₀ env.locals h (fun y => if y = x then u y else if y = x1 then some (f1 c) else if y = x2 then some (f2 c) else m₀ y) → News h₀ env.locals h (Led c ++ cst) → Q .next { s with heap := h, toks := tk }) :
    wpAny (model prog w) A (pyIter (.ref l)) (fun it s₂ => LoopAtV prog w A h₀ env x body Q E it s₂) E s := by
  refine kdl_iter (fun i m nx => ∃ c, nx = Led c ++ cst ∧ m x1 = some (f1 c) ∧ m x2 = some (f2 c) ∧ (∀ z, z ≠ x → z ≠ x1 → z ≠ x2 → m z = m₀ z) ∧ Inv i c) hh (List.mem_append_right _ hl) F N ⟨c₀, rfl, h1, h2, fun _ _ _ _ => rfl, hi⟩ ?_ ?_
  · rintro i v m₁ nx h tk own hv hoff hl₁ ⟨c, rfl, k1, k2, km, hic⟩ F₁ N₁
    have e : (fun y => if y = x then some v else m₁ y) = fun y => if y = x then some v else if y = x1 then some (f1 c) else if y = x2 then some (f2 c) else m₀ y := by
      funext y
      by_cases g1 : y = x
      · rw [if_pos g1, if_pos g1]
      · rw [if_neg g1, if_neg g1]
        by_cases g2 : y = x1
        · rw [if_pos g2, g2, k1]
        · rw [if_neg g2]
          by_cases g3 : y = x2
          · rw [if_pos g3, g3, k2]
          · rw [if_neg g3, km y g1 g2 g3]
    rw [e] at F₁
    have o1 : OwnOff own adr := fun p hp b hb => hoff p hp b (by rw [List.map_append, hadr]; exact List.mem_append_left _ hb)
    have o2 : ∀ q ∈ cst, ∀ p ∈ own, p.1 ≠ q.1 := fun q hq p hp => hoff p hp q.1 (by rw [List.map_append]; exact List.mem_append_right _ (List.mem_map_of_mem hq))
    rw [List.append_assoc] at N₁
    refine wpAny_mono (turn i v c h tk own hv hic o1 o2 F₁ N₁) (fun f s₂ hf => ?_) fun _ _ e => e
    have fin : (∃ h' tk' m' c', s₂ = { s with heap := h', toks := tk' } ∧ Fr h₀ env.locals h' m' ∧ News h₀ env.locals h' (Led c' ++ (cst ++ own)) ∧ m' x1 = some (f1 c') ∧ m' x2 = some (f2 c') ∧ (∀ z, z ≠ x → z ≠ x1 → z ≠ x2 → m' z = m₀ z) ∧ Inv (i + 1) c') →
        InvEndG h₀ env.locals (fun m' nx' => (l, listOf vs.toArray nn) ∈ nx' ∧ ∃ c, nx' = Led c ++ cst ∧ m' x1 = some (f1 c) ∧ m' x2 = some (f2 c) ∧ (∀ z, z ≠ x → z ≠ x1 → z ≠ x2 → m' z = m₀ z) ∧ Inv (i + 1) c) own { s with heap := h, toks := tk } s₂ := by
      rintro ⟨h', tk', m', c', e', F', N', j1, j2, jm, hic'⟩
      refine ⟨h', tk', m', Led c' ++ (cst ++ own), Led c' ++ cst, e', F', N', fun p hp => ?_, fun p hp => ?_, fun p hp b hb => ?_, List.mem_append_right _ hl, c', rfl, j1, j2, jm, hic'⟩
      · rcases List.mem_append.mp hp with hp | hp
        · exact List.mem_append_left _ hp
        · exact List.mem_append_right _ (List.mem_append_left _ hp)
      · exact List.mem_append_right _ (List.mem_append_right _ hp)
      · rw [List.map_append, hadr] at hb
        rw [List.map_append, hadr] at hoff
        exact hoff p hp b hb
    cases f with
    | ret v => exact hf
    | brk => exact hf
    | next => exact fin hf
    | cont => exact fin hf
  · rintro m₁ nx h tk ⟨c, rfl, k1, k2, km, hic⟩ F₁ N₁
    refine done c m₁ h tk hic ?_ N₁
    have e : (fun y => if y = x then m₁ y else if y = x1 then some (f1 c) else if y = x2 then some (f2 c) else m₀ y) = m₁ := by
      funext y
      by_cases g1 : y = x
      · rw [if_pos g1]
      · rw [if_neg g1]
        by_cases g2 : y = x1
        · rw [if_pos g2, g2, k1]
        · rw [if_neg g2]
          by_cases g3 : y = x2
          · rw [if_pos g3, g3, k2]
          · rw [if_neg g3, km y g1 g2 g3]
    rw [e]; exact F₁
end
/-- the parts of a list, borne by the ledger -/
inductive NodesAt (P : Params) (led : List (Addr × Obj)) : List Value → List Nd → Prop where
  | nil : NodesAt P led [] []
  | cons {v : Value} {nd : Nd} {new : List (Addr × Obj)} {vs : List Value} {nds : List Nd} : NodeAt P v nd new → (∀ p ∈ new, p ∈ led) → NodesAt P led vs nds → NodesAt P led (v :: vs) (nd :: nds)
theorem NodesAt.mem {P : Params} {led : List (Addr × Obj)} {v : Value} : ∀ {vs : List Value} {nds : List Nd}, NodesAt P led vs nds → v ∈ vs → ∃ nd new, NodeAt P v nd new ∧ (∀ p ∈ new, p ∈ led) ∧ nd ∈ nds
  | _, _, .cons a b r, h => by
    rcases List.mem_cons.mp h with rfl | h
    · exact ⟨_, _, a, b, .head _⟩
    · obtain ⟨nd, new, x, y, z⟩ := NodesAt.mem r h
      exact ⟨nd, new, x, y, .tail _ z⟩
theorem NodesAt.get {P : Params} {led : List (Addr × Obj)} {v : Value} : ∀ {vs : List Value} {nds : List Nd} {i : Nat}, NodesAt P led vs nds → vs[i]? = some v → ∃ nd new, nds[i]? = some nd ∧ NodeAt P v nd new ∧ ∀ p ∈ new, p ∈ led
  | _, _, 0, .cons a b _, h => by
    cases h
    exact ⟨_, _, rfl, a, b⟩
  | _, _, i + 1, .cons _ _ r, h => by
    obtain ⟨nd, new, x, y, z⟩ := NodesAt.get (i := i) r (by simpa using h)
    exact ⟨nd, new, by simpa using x, y, z⟩
theorem NodesAt.length {P : Params} {led : List (Addr × Obj)} : ∀ {vs : List Value} {nds : List Nd}, NodesAt P led vs nds → vs.length = nds.length
  | _, _, .nil => rfl
  | _, _, .cons _ _ r => congrArg (· + 1) r.length
theorem NodesAt.mono {P : Params} {led led' : List (Addr × Obj)} (hs : ∀ p ∈ led, p ∈ led') : ∀ {vs : List Value} {nds : List Nd}, NodesAt P led vs nds → NodesAt P led' vs nds
  | _, _, .nil => .nil
  | _, _, .cons a b r => .cons a (fun p hp => hs p (b p hp)) (r.mono hs)
set_option maxHeartbeats 8000000 in
theorem column_ (w : World) {l : Addr} {vs : List Value} {nn : Nat} {nds : List Nd} {led : List (Addr × Obj)} (hl : (l, listOf vs.toArray nn) ∈ led) (hNs : NodesAt w.params led vs nds) :
    Say prog w (hd.heap_1 w.params) 541 [.ref l] led 2 16 (fun v led' => v = .none ∧ led' = led) := by
  refine say_in ?_
  intro p loose mean mg mb dp un gd cn cs a ccd cl outer A₀ base h₀ L m hp₀ gn₀ dr₀ tk₀ os₀ Q E B F X N T hk hd hu hret
  w_on
  refine wpAny_call ?_
  k_dflt ktr_enter
  repeat' (first
    | (k_unfold; (try dsimp only))
    | (k_end; wrow_close)
    | ((with_reducible show wpAny _ _ (pyIter _) _ _ _); with_reducible ((k_here; (with_reducible show wpAny _ _ (pyIter (Value.ref _)) (fun it s₂ => LoopAtV _ _ _ _ _ _ [Stmt.If _ _ _ _] _ _ it s₂) _ _); (with_reducible rename NodesAt _ _ _ _ => nX9); (with_unfolding_all refine' list_plain ?k0_10_1 ?k1_10_1 ?k2_10_1 ?k3_10_1 ?kt_10_1 ?kn_10_1; (case k0_10_1 => rfl); (case k1_10_1 => k_asm); (case k2_10_1 => k_asm); (case k3_10_1 => k_mem)); (case' kn_10_1 => (intro u' h' tk' F' N'; (try k_sweep); (try k_fold))); (case' kt_10_1 => (intro v' h' tk' own' hv' F' N'; (obtain ⟨nd', new', hN', hs', -⟩ := NodesAt.mem nX9 hv'); (have hs2' := fun p hp => List.mem_append_left own' (hs' p hp)); clear hs'; (obtain ⟨n1', n2', n3'⟩ := kind_in hN'); (try k_fold))))))
    | ((with_reducible show wpAny _ _ (exec (Stmt.For _ _ _ _ _) _) _ _ _); with_reducible ((k_here; (with_reducible rename NodesAt _ _ _ _ => nX9); (rename Fr _ _ _ _ => lF'); (with_unfolding_all refine' For_invVF lF' ?k1_10_0 ?k2_10_0 ?_; (case k1_10_0 => exact rfl); (case k2_10_0 => exact rfl); k_whole))))
    | ((with_reducible show wpAny _ _ (getAttr _ _ _) _ _ _); (fail_if_success (with_reducible show wpAny _ _ (getAttr (Value.ref _) _ _) _ _ _)); (try k_fold); with_reducible ((k_here; (with_reducible show wpAny _ _ (getAttr _ (Str.ofString "kind") _) _ _ _); k_dflt (refine' kind_get ?k1_08_4 ?k2_08_4 ?k3_08_4 ?k4_08_4 ?k5_08_4 ?_; (case k1_08_4 => with_reducible assumption); (case k3_08_4 => k_asm); (case k4_08_4 => k_asm); (case k5_08_4 => k_asm); (case k2_08_4 => first | with_reducible assumption | (intro p9 hp9; (with_reducible rename ∀ p ∈ _, p ∈ _ => hs9); (have h9 := hs9 p9 hp9); k_mem)); k_whole); intro t' k')))
    | ((with_reducible show wpAny _ _ (eval (Expr.Name _ _) _) _ _ _); with_reducible (k_dflt (first | ((with_reducible show wpAny _ _ (eval (Expr.Name _ _) (envOf _ _ _ _ _)) _ _ _); first | (refine' ld ?k1_08_2 ?k2_08_2 ?_ (hk := rfl) (hl := ?kl_08_2) (hd := ?kd_08_2); (case kl_08_2 => kernel_rfl); (case k1_08_2 => with_reducible assumption); (case k2_08_2 => exact rfl); (case kd_08_2 => decide +kernel)) | (refine' name_K ?kF_08_2 ?k1_08_2 ?k2_08_2 ?k3_08_2 ?_ (hk := rfl) (hx := ?kl_08_2) (hd := ?kd_08_2); (case kF_08_2 => with_reducible assumption); (case k1_08_2 => with_reducible assumption); (case k2_08_2 => k_asm); (case k3_08_2 => k_is); (case kl_08_2 => kernel_rfl); (case kd_08_2 => decide +kernel); k_whole)))))
    | ((with_reducible show ite _ _ _); first
      | with_reducible ((k_closed; k_dflt (first | refine ite_pos (by decide) ?_ | refine ite_neg (by decide) ?_)))
      | with_reducible ((k_here; k_openite; k_spoken; first | (refine ite_pos (by first | omega | (simp only [decide_eq_true_eq, beq_iff_eq, bne_iff_ne, ne_eq]; omega)) ?_; walk_say "DECIDED") | (refine ite_neg (by first | omega | (simp only [decide_eq_true_eq, beq_iff_eq, bne_iff_ne, ne_eq]; omega)) ?_; walk_say "DECIDED"))))
    | ((fail_if_success (with_reducible show wpAny _ _ _ _ _ _)); with_reducible (first | (dsimp only [TupEnd]; k_dflt (refine' ⟨_, _, _, ?ta_03_2, ?tb_03_2, ?tc_03_2, ?td_03_2⟩; (case ta_03_2 => exact rfl); (case tb_03_2 => assumption); (case tc_03_2 => assumption); (case td_03_2 => (intro z hz; first | rfl | simp [hz])))) | dsimp only [TupEnd]))
    | walk1
    | (dsimp only; walk1)
    | (leave1; walk_say "STEP leave1"; try dsimp only)
    | fail "no step")
  all_goals exact hret _ _ _ _ (by k_asm) (by k_asm) ⟨rfl, rfl⟩
theorem column_use {w : World} {l : Addr} {vs : List Value} {nn : Nat} {nds : List Nd} {led : List (Addr × Obj)} {p : Program} {loose : List Str} {mean : ExcName → Option Value} {mg mb : Str → Option Value} {dp un : Nat} {gd : Option (List Code)} {cn : Str} {cs : Scope} {ad : Addr} {ccd : Value} {cl : List (Str × Addr)} {outer : List Env} {A₀ : Around} {base h₀ : Heap} {L : Addr} {m : Str → Option Value} {hp₁ : Heap} {gn₁ : Array GenState} {dr₁ : Drawn} {tk₁ : Nat} {os₁ : OsState}
    {Q E : Value → Shared → Prop} (hNs : NodesAt w.params led vs nds) (hl : (l, listOf vs.toArray nn) ∈ led) (B : Below A₀ base outer h₀) (F : Fr h₀ L hp₁ m) (X : (hd.heap_1 w.params).In h₀) (N : News h₀ L hp₁ led) (T : Top p loose mean mg mb h₀) (hk : cs.kind = .function)
    (hd : dp + 2 < recursionLimit) (hu : un + 16 < cLine) (ret : ∀ h' tk', Fr h₀ L h' m → News h₀ L h' led → Q .none (.mk h' gn₁ dr₁ tk' os₁)) :
    wpAny (model prog w) (ktrTop dp un gd cn cs L ad ccd cl outer) (call (.ref 541) [.ref l]) Q E (.mk hp₁ gn₁ dr₁ tk₁ os₁) := by
  refine column_ w hl hNs p loose mean mg mb dp un gd cn cs ad ccd cl outer A₀ base h₀ L m (.mk hp₁ gn₁ dr₁ tk₁ os₁) Q E B F X N T hk hd hu ?_
  rintro v led' h' tk' F' N' ⟨rfl, rfl⟩
  exact ret h' tk' F' N'
theorem lt_ne_all {d : Addr} {l : List (Addr × Obj)} (h : ∀ p ∈ l, p.1 < d) : ∀ p ∈ l, p.1 ≠ d := fun p hp => Nat.ne_of_lt (h p hp)
local macro_rules | `(tactic| k_all) => `(tactic| first | exact allLt_ne (by assumption) | exact lt_ne_all (by assumption) | exact OwnOff.ne (by assumption) (by k_memK) | (refine List.forall_mem_append.mpr ⟨?ka, ?kb⟩; (case ka => k_all); (case kb => k_all)))
/-- what a turn of natural_column turns -/
structure ColS where
  nat : Int
  tn : Tok
  wd : Int
  tw : Tok
  dp : Int
  td : Tok
  vs1 : List Value
  n1 : Nat
  vs2 : List Value
  n2 : Nat
abbrev totD (P : Params) (a0 a1 a2 : Tok) (ls lk : Addr) (nat : Int) (tn : Tok) : Obj := dictOf [ent P "natural" a0 (.int nat tn), ent P "stretch" a1 (.ref ls), ent P "shrink" a2 (.ref lk)] 3
abbrev colLed (P : Params) (x dx ls lk : Addr) (a0 a1 a2 : Tok) (c : ColS) : List (Addr × Obj) :=
  [(lk, listOf c.vs2.toArray c.n2), (ls, listOf c.vs1.toArray c.n1), (x, instObj 297 dx), (dx, totD P a0 a1 a2 ls lk c.nat c.tn)]
/-- sums of so many parts -/
def Bd (i : Nat) (ns : List Int) : Prop := ∀ n ∈ ns, 0 ≤ n ∧ n ≤ 99 * (i : Int)
theorem bd_succ {i : Nat} {ns : List Int} (h : Bd i ns) : Bd (i + 1) ns := fun n hn => by
  have := h n hn
  omega
theorem bd_getD {i : Nat} {ns : List Int} (h : Bd i ns) (k : Nat) : 0 ≤ ns.getD k 0 ∧ ns.getD k 0 ≤ 99 * (i : Int) := by
  rw [List.getD_eq_getElem?_getD]
  cases e : ns[k]? with
  | none => simp only [Option.getD_none]; omega
  | some n => exact h n (List.mem_of_getElem? e)
theorem bd_set {i : Nat} {ns : List Int} {k : Nat} {x : Int} (h : Bd i ns) (h0 : 0 ≤ x) (h1 : x < 100) : Bd (i + 1) (ns.set k (ns.getD k 0 + x)) := fun n hn => by
  have e := bd_getD h k
  rcases List.mem_or_eq_of_mem_set hn with hn | rfl
  · exact bd_succ h n hn
  · omega
def ColInv (i : Nat) (c : ColS) : Prop := ∃ ns1 ns2, IntsAre c.vs1 ns1 ∧ ns1.length = 4 ∧ IntsAre c.vs2 ns2 ∧ ns2.length = 4 ∧ Bd i ns1 ∧ Bd i ns2
section
variable {w : World} {A : Around} {E : Value → Shared → Prop} {s : Shared} {env : Env} {h₀ : Heap} {body : List Stmt} {Q : Flow → Shared → Prop}
theorem col_loop {P : Params} {l x dx ls lk : Addr} {vs : List Value} {nn n1 n2 : Nat} {m₀ : Str → Option Value} {led : List (Addr × Obj)} {a0 a1 a2 tn tw td c1 c2 c3 c4 c5 c6 c7 c8 : Tok}
    (hh : A.handled = none) (F : Fr h₀ env.locals s.heap m₀) (N : News h₀ env.locals s.heap ((lk, listOf #[.int 0 c5, .int 0 c6, .int 0 c7, .int 0 c8] n2) :: (ls, listOf #[.int 0 c1, .int 0 c2, .int 0 c3, .int 0 c4] n1) :: (x, instObj 297 dx) :: (dx, totD P a0 a1 a2 ls lk 0 tn) :: led)) (hl : (l, listOf vs.toArray nn) ∈ led)
    (h1 : m₀ (Str.ofString "width") = some (.int 0 tw)) (h2 : m₀ (Str.ofString "depth") = some (.int 0 td))
    (turn : ∀ i a0 a1 a2 v nat tn wd tw dp td vs1 n1 vs2 n2 ns1 ns2 h tk own, v ∈ vs → IntsAre vs1 ns1 → ns1.length = 4 → IntsAre vs2 ns2 → ns2.length = 4 → Bd i ns1 → Bd i ns2 → OwnOff own [lk, ls, x, dx] →
      Fr h₀ env.locals h (fun y => if y = Str.ofString "node" then some v else if y = Str.ofString "width" then some (.int wd tw) else if y = Str.ofString "depth" then some (.int dp td) else m₀ y) →
      News h₀ env.locals h ((lk, listOf vs2.toArray n2) :: (ls, listOf vs1.toArray n1) :: (x, instObj 297 dx) :: (dx, totD P a0 a1 a2 ls lk nat tn) :: (led ++ own)) →
      wpAny (model prog w) A (execs body env) (StEnd h₀ env.locals (colLed P x dx ls lk a0 a1 a2) (led ++ own) (Str.ofString "node") (Str.ofString "width") (Str.ofString "depth") (fun c => .int c.wd c.tw) (fun c => .int c.dp c.td) m₀ (ColInv (i + 1)) { s with heap := h, toks := tk } Q) E { s with heap := h, toks := tk })
    (done : ∀ a0 a1 a2 nat tn wd tw dp td vs1 n1 vs2 n2 ns1 ns2 (u : Str → Option Value) h tk, IntsAre vs1 ns1 → ns1.length = 4 → IntsAre vs2 ns2 → ns2.length = 4 → Bd vs.length ns1 → Bd vs.length ns2 →
      Fr h₀ env.locals h (fun y => if y = Str.ofString "node" then u y else if y = Str.ofString "width" then some (.int wd tw) else if y = Str.ofString "depth" then some (.int dp td) else m₀ y) →
      News h₀ env.locals h ((lk, listOf vs2.toArray n2) :: (ls, listOf vs1.toArray n1) :: (x, instObj 297 dx) :: (dx, totD P a0 a1 a2 ls lk nat tn) :: led) → Q .next { s with heap := h, toks := tk }) :
    wpAny (model prog w) A (pyIter (.ref l)) (fun it s₂ => LoopAtV prog w A h₀ env (Str.ofString "node") body Q E it s₂) E s := by
  refine items_loop (σ := ColS) (colLed P x dx ls lk a0 a1 a2) [lk, ls, x, dx] (Str.ofString "width") (Str.ofString "depth") (fun c => .int c.wd c.tw) (fun c => .int c.dp c.td) ColInv
    ⟨0, tn, 0, tw, 0, td, [.int 0 c1, .int 0 c2, .int 0 c3, .int 0 c4], n1, [.int 0 c5, .int 0 c6, .int 0 c7, .int 0 c8], n2⟩ hh F N hl (fun _ => rfl) h1 h2 ⟨[0, 0, 0, 0], [0, 0, 0, 0], .cons _ _ (.cons _ _ (.cons _ _ (.cons _ _ .nil))), rfl, .cons _ _ (.cons _ _ (.cons _ _ (.cons _ _ .nil))), rfl, by simp [Bd], by simp [Bd]⟩ ?_ ?_
  · rintro i v ⟨nat, tn, wd, tw, dp, td, vs1, n1, vs2, n2⟩ h tk own hv ⟨ns1, ns2, i1, e1, i2, e2, b1, b2⟩ o1 _ F₁ N₁
    exact turn i a0 a1 a2 v nat tn wd tw dp td vs1 n1 vs2 n2 ns1 ns2 h tk own (List.mem_of_getElem? hv) i1 e1 i2 e2 b1 b2 o1 F₁ N₁
  · rintro ⟨nat, tn, wd, tw, dp, td, vs1, n1, vs2, n2⟩ u h tk ⟨ns1, ns2, i1, e1, i2, e2, b1, b2⟩ F₁ N₁
    exact done a0 a1 a2 nat tn wd tw dp td vs1 n1 vs2 n2 ns1 ns2 u h tk i1 e1 i2 e2 b1 b2 F₁ N₁
end
theorem nat_next {P : Params} {h₀ : Heap} {L x dx ls lk : Addr} {a0 a1 a2 : Tok} {cst : List (Addr × Obj)} {m₀ m' : Str → Option Value} {i : Nat} {s₁ : Shared} {Q : Flow → Shared → Prop} {h' : Heap} {tk : Nat} {nat wd dp : Int} {tn tw td : Tok} {vs1 vs2 : List Value} {n1 n2 : Nat} {ns1 ns2 : List Int}
    (F : Fr h₀ L h' m') (N : News h₀ L h' ((lk, listOf vs2.toArray n2) :: (ls, listOf vs1.toArray n1) :: (x, instObj 297 dx) :: (dx, totD P a0 a1 a2 ls lk nat tn) :: cst)) (j1 : m' (Str.ofString "width") = some (.int wd tw)) (j2 : m' (Str.ofString "depth") = some (.int dp td)) (j3 : ∀ z, z ≠ Str.ofString "node" → z ≠ Str.ofString "width" → z ≠ Str.ofString "depth" → m' z = m₀ z)
    (i1 : IntsAre vs1 ns1) (e1 : ns1.length = 4) (i2 : IntsAre vs2 ns2) (e2 : ns2.length = 4) (b1 : Bd i ns1) (b2 : Bd i ns2) :
    StEnd h₀ L (colLed P x dx ls lk a0 a1 a2) cst (Str.ofString "node") (Str.ofString "width") (Str.ofString "depth") (fun c => .int c.wd c.tw) (fun c => .int c.dp c.td) m₀ (ColInv i) s₁ Q .next { s₁ with heap := h', toks := tk } :=
  ⟨h', tk, m', ⟨nat, tn, wd, tw, dp, td, vs1, n1, vs2, n2⟩, rfl, F, N, j1, j2, j3, ns1, ns2, i1, e1, i2, e2, b1, b2⟩
inductive NatOut (P : Params) (n : Nat) (led : List (Addr × Obj)) (v : Value) (led' : List (Addr × Obj)) : Prop where
  | mk : ∀ (tp x dx ls lk : Addr) (a0 a1 a2 : Tok) (nat : Int) (tn : Tok) (wd : Int) (tw : Tok) (dp : Int) (td : Tok) (vs1 : List Value) (n1 : Nat) (vs2 : List Value) (n2 : Nat) (ns1 ns2 : List Int), v = .ref tp → led' = (tp, tupO [.ref x, .int wd tw, .int dp td]) :: (lk, listOf vs2.toArray n2) :: (ls, listOf vs1.toArray n1) :: (x, instObj 297 dx) :: (dx, totD P a0 a1 a2 ls lk nat tn) :: led → IntsAre vs1 ns1 → ns1.length = 4 → IntsAre vs2 ns2 → ns2.length = 4 → Bd n ns1 → Bd n ns2 → AllLt dx led → @LT.lt Nat _ dx x → @LT.lt Nat _ x ls → @LT.lt Nat _ ls lk → @LT.lt Nat _ lk tp → NatOut P n led v led'
set_option maxHeartbeats 8000000 in
theorem natural_ (w : World) {l : Addr} {vs : List Value} {nn : Nat} {nds : List Nd} {led : List (Addr × Obj)} (hl : (l, listOf vs.toArray nn) ∈ led) (hNs : NodesAt w.params led vs nds) :
    Say prog w (hd.heap_1 w.params) 548 [.ref l] led 9 120 (NatOut w.params vs.length led) := by
  refine say_in ?_
  intro p loose mean mg mb dp un gd cn cs a ccd cl outer A₀ base h₀ L m hp₀ gn₀ dr₀ tk₀ os₀ Q E B F X N T hk hd hu hret
  w_on
  refine wpAny_call ?_
  k_dflt ktr_enter
  repeat' (first
    | (k_unfold; (try dsimp only))
    | (k_end; wrow_close)
    | ((fail_if_success (with_reducible show wpAny _ _ _ _ _ _)); with_reducible (k_dflt (refine' nat_next ?tb_11_1 ?tc_11_1 ?td_11_1 ?te_11_1 ?tf_11_1 ?g1_11_1 ?g2_11_1 ?g3_11_1 ?g4_11_1 ?g5_11_1 ?g6_11_1; (case tb_11_1 => assumption); (case tc_11_1 => (rename News _ _ _ _ => lN9; exact lN9)); (case td_11_1 => exact rfl); (case te_11_1 => exact rfl); (case tf_11_1 => (intro z hz1 hz2 hz3; first | rfl | simp [hz1, hz2, hz3])); (case g1_11_1 => l_ints); (case g2_11_1 => first | assumption | (simp only [List.length_set]; assumption)); (case g3_11_1 => l_ints); (case g4_11_1 => first | assumption | (simp only [List.length_set]; assumption)); (case g5_11_1 => first | (refine bd_succ ?_; assumption) | (refine bd_set ?gx_11_1 ?gy_11_1 ?gz_11_1; (case gx_11_1 => assumption); (case gy_11_1 => assumption); (case gz_11_1 => assumption))); (case g6_11_1 => first | (refine bd_succ ?_; assumption) | (refine bd_set ?gx_11_1 ?gy_11_1 ?gz_11_1; (case gx_11_1 => assumption); (case gy_11_1 => assumption); (case gz_11_1 => assumption))))))
    | ((with_reducible show wpAny _ _ (pyIter _) _ _ _); with_reducible ((k_here; (with_reducible show wpAny _ _ (pyIter (Value.ref _)) (fun it s₂ => LoopAtV _ _ _ _ _ _ (Stmt.Assign _ _ _ :: Stmt.If _ _ _ _ :: _) _ _ it s₂) _ _); (with_reducible rename NodesAt _ _ _ _ => nX9); (with_unfolding_all refine' col_loop ?k0_11_0 ?k1_11_0 ?k2_11_0 ?k3_11_0 ?k4_11_0 ?k5_11_0 ?kt_11_0 ?kn_11_0; (case k0_11_0 => rfl); (case k1_11_0 => k_asm); (case k2_11_0 => exact cb_drop (by k_asm) (fun _ hp => List.mem_cons_of_mem _ hp)); (case k3_11_0 => k_mem); (case k4_11_0 => rfl); (case k5_11_0 => rfl)); (case' kn_11_0 => (intro a0' a1' a2' nat' tn' wd' tw' dp' td' vs1' n1' vs2' n2' ns1' ns2' u' h' tk' i1' e1' i2' e2' bd1' bd2' F' N'; (try k_sweep); (try k_fold))); (case' kt_11_0 => (intro ix' a0' a1' a2' v' nat' tn' wd' tw' dp' td' vs1' n1' vs2' n2' ns1' ns2' h' tk' own' hv' i1' e1' i2' e2' bd1' bd2' o1' F' N'; (obtain ⟨nd', new', hN', hs', -⟩ := NodesAt.mem nX9 hv');  (obtain ⟨n1', n2', n3'⟩ := kind_in hN'); (try k_fold))))))
    | ((with_reducible show wpAny _ _ (call _ _) _ _ _); (try k_fold); first
      | with_reducible ((k_here; (with_reducible show wpAny _ _ (call (Value.ref 541) [Value.ref _]) _ _ _); k_dflt (refine' column_use ?kn_10_2 ?kl_10_2 ?k1_10_2 ?k2_10_2 ?k3_10_2 ?k4_10_2 ?k5_10_2 ?kK_10_2 ?kd_10_2 ?ku_10_2 ?_; (case kn_10_2 => with_reducible assumption); (case kl_10_2 => with_reducible assumption); (case k1_10_2 => k_asm); (case k2_10_2 => k_asm); (case k3_10_2 => k_asm); (case k4_10_2 => k_asm); (case k5_10_2 => k_asm); (case kK_10_2 => first | exact rfl | assumption); (case kd_10_2 => k_room); (case ku_10_2 => k_units); k_whole); intro h' tk' F' N'; (try k_sweep)))
      | with_reducible ((k_here; (with_reducible show wpAny _ _ (call (Value.ref 534) [_]) _ _ _); k_dflt (refine' sayN_use (across_ _ ?kn_08_14) ?ks_08_14 ?k1_08_14 ?k2_08_14 ?k3_08_14 ?k4_08_14 ?k5_08_14 ?kK_08_14 ?kd_08_14 ?ku_08_14 ?_; (case kn_08_14 => with_reducible assumption); (case k1_08_14 => k_asm); (case k2_08_14 => k_asm); (case k3_08_14 => k_asm); (case k4_08_14 => k_asm); (case k5_08_14 => k_asm); (case kK_08_14 => first | exact rfl | assumption); (case kd_08_14 => k_room); (case ku_08_14 => k_units); (case ks_08_14 => first | with_reducible assumption | kcf_all | (intro p9 hp9; (with_reducible rename ∀ p ∈ _, p ∈ _ => hs9); (have h9 := hs9 p9 hp9); k_mem)); k_whole); intro v' h' tk' e' F' N'; obtain ⟨t', e'⟩ := e'; subst e'; (try k_sweep)))
      | with_reducible ((k_here; (with_reducible show wpAny _ _ (call (Value.ref 498) [_]) _ _ _); k_dflt (refine' sayN_use (depth_ _ ?kn_08_13) ?ks_08_13 ?k1_08_13 ?k2_08_13 ?k3_08_13 ?k4_08_13 ?k5_08_13 ?kK_08_13 ?kd_08_13 ?ku_08_13 ?_; (case kn_08_13 => with_reducible assumption); (case k1_08_13 => k_asm); (case k2_08_13 => k_asm); (case k3_08_13 => k_asm); (case k4_08_13 => k_asm); (case k5_08_13 => k_asm); (case kK_08_13 => first | exact rfl | assumption); (case kd_08_13 => k_room); (case ku_08_13 => k_units); (case ks_08_13 => first | with_reducible assumption | kcf_all | (intro p9 hp9; (with_reducible rename ∀ p ∈ _, p ∈ _ => hs9); (have h9 := hs9 p9 hp9); k_mem)); k_whole); intro v' h' tk' e' F' N'; obtain ⟨t', e'⟩ := e'; subst e'; (try k_sweep)))
      | with_reducible ((k_here; (with_reducible show wpAny _ _ (call (Value.ref 493) [_]) _ _ _); k_dflt (refine' sayN_use (height_ _ ?kn_08_12) ?ks_08_12 ?k1_08_12 ?k2_08_12 ?k3_08_12 ?k4_08_12 ?k5_08_12 ?kK_08_12 ?kd_08_12 ?ku_08_12 ?_; (case kn_08_12 => with_reducible assumption); (case k1_08_12 => k_asm); (case k2_08_12 => k_asm); (case k3_08_12 => k_asm); (case k4_08_12 => k_asm); (case k5_08_12 => k_asm); (case kK_08_12 => first | exact rfl | assumption); (case kd_08_12 => k_room); (case ku_08_12 => k_units); (case ks_08_12 => first | with_reducible assumption | kcf_all | (intro p9 hp9; (with_reducible rename ∀ p ∈ _, p ∈ _ => hs9); (have h9 := hs9 p9 hp9); k_mem)); k_whole); intro v' h' tk' e' F' N'; obtain ⟨t', e'⟩ := e'; subst e'; (try k_sweep))))
    | ((with_reducible show wpAny _ _ (exec (Stmt.For _ _ _ _ _) _) _ _ _); with_reducible ((k_here; (with_reducible rename NodesAt _ _ _ _ => nX9); (rename Fr _ _ _ _ => lF'); (with_unfolding_all refine' For_invVF lF' ?k1_10_0 ?k2_10_0 ?_; (case k1_10_0 => exact rfl); (case k2_10_0 => exact rfl); k_whole))))
    | ((fail_if_success (with_reducible show wpAny _ _ _ _ _ _)); with_reducible ((k_dflt (refine' ⟨_, _, ?a_08_11, ?b_08_11, ?c_08_11, ?d_08_11⟩; (case a_08_11 => exact rfl); (case c_08_11 => assumption); (case d_08_11 => assumption); (case b_08_11 => first | exact bm_t (by with_reducible assumption) rfl | exact bm_3 (by with_reducible assumption) (by with_reducible assumption) (by with_reducible assumption) | exact bm_4 (by with_reducible assumption) (by with_reducible assumption) (by with_reducible assumption) (by with_reducible assumption) | (simp only [decide_eq_false_iff_not, decide_eq_true_eq, eq_comm]; omega))))))
    | ((with_reducible show wpAny _ _ (PySem.isTrue (Expr.BoolOp _ _ _) _ _) _ _ _); with_reducible ((k_here; (fail_if_success (with_reducible show wpAny _ _ _ (BMid _ _ _ _ _ _) _ _)); (with_reducible show wpAny _ _ (PySem.isTrue (Expr.BoolOp _ (Expr.Compare _ _ [Expr.Name (Str.ofString "HBOX") _] _ :: _) _) _ _) _ _ _); focus ((first | ((with_reducible show wpAny _ _ (PySem.isTrue (Expr.BoolOp _ [_, _, _, _] _) _ _) _ _ _); refine' bool_cut4 ?kn_08_10 ?k1_08_10 ?k2_08_10 ?_ ?_) | ((with_reducible show wpAny _ _ (PySem.isTrue (Expr.BoolOp _ [_, _, _] _) _ _) _ _ _); refine' bool_cut3 ?kn_08_10 ?k1_08_10 ?k2_08_10 ?_ ?_) | ((with_reducible show wpAny _ _ (PySem.isTrue (Expr.BoolOp _ [_, _] _) _ _) _ _ _); refine' bool_cut3 ?kn_08_10 ?k1_08_10 ?k2_08_10 ?_ ?_)); (case kn_08_10 => with_reducible assumption); (case k1_08_10 => k_asm); (case k2_08_10 => k_asm); (intro h' tk' F' N'; (try k_sweep))))))
    | ((with_reducible show wpAny _ _ (getAttr _ _ _) _ _ _); (fail_if_success (with_reducible show wpAny _ _ (getAttr (Value.ref _) _ _) _ _ _)); (try k_fold); first
      | with_reducible ((k_here; (with_reducible show wpAny _ _ (getAttr _ (Str.ofString "kind") _) _ _ _); k_dflt (refine' kind_get ?k1_08_4 ?k2_08_4 ?k3_08_4 ?k4_08_4 ?k5_08_4 ?_; (case k1_08_4 => with_reducible assumption); (case k3_08_4 => k_asm); (case k4_08_4 => k_asm); (case k5_08_4 => k_asm); (case k2_08_4 => first | with_reducible assumption | (intro p9 hp9; (with_reducible rename ∀ p ∈ _, p ∈ _ => hs9); (have h9 := hs9 p9 hp9); k_mem)); k_whole); intro t' k'))
      | with_reducible ((k_here; (with_reducible rename NodeAt _ _ _ _ => hN9); (with_reducible rename ∀ p ∈ _, p ∈ _ => hs9); (have hNc := hN9); (have hsc := hs9); (first | induction hN9 | cases hN9) <;> first | exact absurd_kind (by with_reducible assumption) rfl | exact absurd_le (by with_reducible assumption) rfl | exact absurd_box (by with_reducible assumption) (by with_reducible assumption) rfl | exact absurd_nle (by with_reducible assumption) (by with_reducible assumption) | (exfalso; simp only [kindF] at *; omega) | (simp only [List.forall_mem_cons] at hs9; obtain ⟨m1', m2', m3'⟩ := hs9; (try (obtain ⟨m4', m5', -⟩ := m3'))))))
    | ((with_reducible show wpAny _ _ (eval (Expr.Name _ _) _) _ _ _); with_reducible (k_dflt (first | ((with_reducible show wpAny _ _ (eval (Expr.Name _ _) (envOf _ _ _ _ _)) _ _ _); first | (refine' ld ?k1_08_2 ?k2_08_2 ?_ (hk := rfl) (hl := ?kl_08_2) (hd := ?kd_08_2); (case kl_08_2 => kernel_rfl); (case k1_08_2 => with_reducible assumption); (case k2_08_2 => exact rfl); (case kd_08_2 => decide +kernel)) | (refine' name_K ?kF_08_2 ?k1_08_2 ?k2_08_2 ?k3_08_2 ?_ (hk := rfl) (hx := ?kl_08_2) (hd := ?kd_08_2); (case kF_08_2 => with_reducible assumption); (case k1_08_2 => with_reducible assumption); (case k2_08_2 => k_asm); (case k3_08_2 => k_is); (case kl_08_2 => kernel_rfl); (case kd_08_2 => decide +kernel); k_whole)))))
    | ((with_reducible show ite _ _ _); with_reducible ((k_here; k_openite; k_spoken; first | (refine ite_pos (by first | omega | (simp only [decide_eq_true_eq, beq_iff_eq, bne_iff_ne, ne_eq]; omega)) ?_; walk_say "DECIDED") | (refine ite_neg (by first | omega | (simp only [decide_eq_true_eq, beq_iff_eq, bne_iff_ne, ne_eq]; omega)) ?_; walk_say "DECIDED"))))
    | walk1
    | (dsimp only; walk1)
    | (leave1; walk_say "STEP leave1"; try dsimp only)
    | fail "no step")
  all_goals exact hret _ _ _ _ (by k_asm) (by k_asm) ⟨_, _, _, _, _, _, _, _, _, _, _, _, _, _, _, _, _, _, _, _, rfl, rfl, by assumption, by assumption, by assumption, by assumption, by assumption, by assumption, by assumption, by omega, by omega, by omega, by omega⟩
theorem sayL_use {w : World} {f : Addr} {args : List Value} {dD dU : Nat} {R : Value → Prop} {led : List (Addr × Obj)} {p : Program} {loose : List Str} {mean : ExcName → Option Value} {mg mb : Str → Option Value} {dp un : Nat} {gd : Option (List Code)} {cn : Str} {cs : Scope} {ad : Addr} {ccd : Value} {cl : List (Str × Addr)} {outer : List Env} {A₀ : Around} {base h₀ : Heap} {L : Addr} {m : Str → Option Value} {hp₁ : Heap} {gn₁ : Array GenState} {dr₁ : Drawn} {tk₁ : Nat} {os₁ : OsState}
    {Q E : Value → Shared → Prop} (C : Say prog w (hd.heap_1 w.params) f args led dD dU (fun v led' => R v ∧ led' = led)) (B : Below A₀ base outer h₀) (F : Fr h₀ L hp₁ m) (X : (hd.heap_1 w.params).In h₀) (N : News h₀ L hp₁ led) (T : Top p loose mean mg mb h₀) (hk : cs.kind = .function)
    (hd : dp + dD < recursionLimit) (hu : un + dU < cLine)
    (ret : ∀ v h' tk', R v → Fr h₀ L h' m → News h₀ L h' led → Q v (.mk h' gn₁ dr₁ tk' os₁)) :
    wpAny (model prog w) (ktrTop dp un gd cn cs L ad ccd cl outer) (call (.ref f) args) Q E (.mk hp₁ gn₁ dr₁ tk₁ os₁) := by
  refine C p loose mean mg mb dp un gd cn cs ad ccd cl outer A₀ base h₀ L m (.mk hp₁ gn₁ dr₁ tk₁ os₁) Q E B F X N T hk hd hu ?_
  rintro v led' h' tk' F' N' ⟨r, rfl⟩
  exact ret v h' tk' r F' N'
abbrev AnInt (v : Value) : Prop := ∃ k t, v = .int k t
abbrev AnOrder (v : Value) : Prop := ∃ k t, v = .int k t ∧ 0 ≤ k ∧ k ≤ 3
set_option maxHeartbeats 8000000 in
theorem top_ (w : World) {l : Addr} {vs : List Value} {nn : Nat} {ns : List Int} {led : List (Addr × Obj)} (hl : (l, listOf vs.toArray nn) ∈ led) (hi : IntsAre vs ns) (h4 : ns.length = 4) :
    Say prog w (hd.heap_1 w.params) 245 [.ref l] led 2 16 (fun v led' => AnOrder v ∧ led' = led) := by
  refine say_in ?_
  intro p loose mean mg mb dp un gd cn cs a ccd cl outer A₀ base h₀ L m hp₀ gn₀ dr₀ tk₀ os₀ Q E B F X N T hk hd hu hret
  w_on
  refine wpAny_call ?_
  k_dflt ktr_enter
  repeat' (first
    | (k_unfold; (try dsimp only))
    | (k_end; wrow_close)
    | ((with_reducible show wpAny _ _ (binaryOp _ _ _) _ _ _); with_reducible ((k_here; (with_reducible refine floordiv_pos ?h0_12_0 ?h1_12_0 ?h2_12_0 ?_); (case h0_12_0 => first | assumption | omega); (case h1_12_0 => omega); (case h2_12_0 => omega); (intro q' hq'))))
    | ((with_reducible show wpAny _ _ (eval (Expr.Name _ _) _) _ _ _); with_reducible (k_dflt (first | ((with_reducible show wpAny _ _ (eval (Expr.Name _ _) (envOf _ _ _ _ _)) _ _ _); first | (refine' ld ?k1_08_2 ?k2_08_2 ?_ (hk := rfl) (hl := ?kl_08_2) (hd := ?kd_08_2); (case kl_08_2 => kernel_rfl); (case k1_08_2 => with_reducible assumption); (case k2_08_2 => exact rfl); (case kd_08_2 => decide +kernel)) | (refine' name_K ?kF_08_2 ?k1_08_2 ?k2_08_2 ?k3_08_2 ?_ (hk := rfl) (hx := ?kl_08_2) (hd := ?kd_08_2); (case kF_08_2 => with_reducible assumption); (case k1_08_2 => with_reducible assumption); (case k2_08_2 => k_asm); (case k3_08_2 => k_is); (case kl_08_2 => kernel_rfl); (case kd_08_2 => decide +kernel); k_whole)))))
    | ((with_reducible show ite _ _ _); with_reducible ((k_here; k_openite; k_spoken; first | (refine ite_pos (by first | omega | (simp only [decide_eq_true_eq, beq_iff_eq, bne_iff_ne, ne_eq]; omega)) ?_; walk_say "DECIDED") | (refine ite_neg (by first | omega | (simp only [decide_eq_true_eq, beq_iff_eq, bne_iff_ne, ne_eq]; omega)) ?_; walk_say "DECIDED"))))
    | ((fail_if_success (with_reducible show wpAny _ _ _ _ _ _)); with_reducible (first | (dsimp only [TupEnd]; k_dflt (refine' ⟨_, _, _, ?ta_03_2, ?tb_03_2, ?tc_03_2, ?td_03_2⟩; (case ta_03_2 => exact rfl); (case tb_03_2 => assumption); (case tc_03_2 => assumption); (case td_03_2 => (intro z hz; first | rfl | simp [hz])))) | dsimp only [TupEnd]))
    | ((with_reducible show wpAny _ _ (pyIter _) _ _ _); with_reducible ((k_here; (with_reducible show wpAny _ _ (pyIter (Value.ref _)) (fun it s₂ => LoopAtV _ _ _ _ _ _ _ _ _ it s₂) _ _); (with_unfolding_all refine' tup_plain ?k0_03_1 ?k1_03_1 ?k2_03_1 ?k3_03_1 ?k4_03_1 ?k5_03_1 ?kt_03_1 ?kn_03_1; (case k0_03_1 => rfl); (case k1_03_1 => k_asm); (case k2_03_1 => k_asm); (case k3_03_1 => k_mem); (case k4_03_1 => rfl); (case k5_03_1 => rfl)); (case' kn_03_1 => (intro u' h' tk' F' N'; (try k_sweep); (try k_fold))); (case' kt_03_1 => (intro v' h' tk' own' hv' F' N'; (try simp only [List.cons_append] at N'); simp only [List.mem_cons, List.not_mem_nil, or_false] at hv'; rcases hv' with hv' | hv' | hv' <;> (subst hv'; (try k_fold)))))))
    | ((with_reducible show wpAny _ _ (exec (Stmt.For _ _ _ _ _) _) _ _ _); with_reducible ((k_here; (rename Fr _ _ _ _ => lF'); (with_unfolding_all refine' For_invVF lF' ?k1_03_0 ?k2_03_0 ?_; (case k1_03_0 => exact rfl); (case k2_03_0 => exact rfl); k_whole))))
    | walk1
    | (dsimp only; walk1)
    | (leave1; walk_say "STEP leave1"; try dsimp only)
    | fail "no step")
  all_goals exact hret _ _ _ _ (by k_asm) (cb_drop (by k_asm) (by intro q9 hq9; k_mem)) ⟨⟨_, _, rfl, by decide, by decide⟩, rfl⟩
theorem floordiv_pos {w : World} {A : Around} {E : Value → Shared → Prop} {hp₁ : Heap} {gn₁ : Array GenState} {dr₁ : Drawn} {tk₁ : Nat} {os₁ : OsState} {a b : Int} {t u : Tok} {Q : Value → Shared → Prop} (h0 : 0 ≤ a) (hb : 0 < b) (h1 : b < 1073741824) (h : ∀ q, 0 ≤ q → Q (.int q tk₁) (.mk hp₁ gn₁ dr₁ (tk₁ + 1) os₁)) :
    wpAny (model prog w) A (binaryOp .FloorDiv (.int a t) (.int b u)) Q E (.mk hp₁ gn₁ dr₁ tk₁ os₁) :=
  floordiv_int (by omega) (h _ (Int.fdiv_nonneg h0 (by omega))) (Or.inl (PyProof.noPylong_small (by omega)))
set_option maxHeartbeats 8000000 in
theorem bad_ (w : World) {e tt : Int} {t1 t2 : Tok} {led : List (Addr × Obj)} (h0 : 0 ≤ e) (h1 : tt ≤ 2000) :
    Say prog w (hd.heap_1 w.params) 152 [.int e t1, .int tt t2] led 2 16 (fun v led' => AnInt v ∧ led' = led) := by
  refine say_in ?_
  intro p loose mean mg mb dp un gd cn cs a ccd cl outer A₀ base h₀ L m hp₀ gn₀ dr₀ tk₀ os₀ Q E B F X N T hk hd hu hret
  w_on
  refine wpAny_call ?_
  k_dflt ktr_enter
  repeat' (first
    | (k_unfold; (try dsimp only))
    | (k_end; wrow_close)
    | ((with_reducible show wpAny _ _ (binaryOp _ _ _) _ _ _); with_reducible ((k_here; (with_reducible refine floordiv_pos ?h0_12_0 ?h1_12_0 ?h2_12_0 ?_); (case h0_12_0 => first | assumption | omega); (case h1_12_0 => omega); (case h2_12_0 => omega); (intro q' hq'))))
    | ((with_reducible show wpAny _ _ (eval (Expr.Name _ _) _) _ _ _); with_reducible (k_dflt (first | ((with_reducible show wpAny _ _ (eval (Expr.Name _ _) (envOf _ _ _ _ _)) _ _ _); first | (refine' ld ?k1_08_2 ?k2_08_2 ?_ (hk := rfl) (hl := ?kl_08_2) (hd := ?kd_08_2); (case kl_08_2 => kernel_rfl); (case k1_08_2 => with_reducible assumption); (case k2_08_2 => exact rfl); (case kd_08_2 => decide +kernel)) | (refine' name_K ?kF_08_2 ?k1_08_2 ?k2_08_2 ?k3_08_2 ?_ (hk := rfl) (hx := ?kl_08_2) (hd := ?kd_08_2); (case kF_08_2 => with_reducible assumption); (case k1_08_2 => with_reducible assumption); (case k2_08_2 => k_asm); (case k3_08_2 => k_is); (case kl_08_2 => kernel_rfl); (case kd_08_2 => decide +kernel); k_whole)))))
    | ((with_reducible show ite _ _ _); with_reducible ((k_here; k_openite; k_spoken; first | (refine ite_pos (by first | omega | (simp only [decide_eq_true_eq, beq_iff_eq, bne_iff_ne, ne_eq]; omega)) ?_; walk_say "DECIDED") | (refine ite_neg (by first | omega | (simp only [decide_eq_true_eq, beq_iff_eq, bne_iff_ne, ne_eq]; omega)) ?_; walk_say "DECIDED"))))
    | ((fail_if_success (with_reducible show wpAny _ _ _ _ _ _)); with_reducible (first | (dsimp only [TupEnd]; k_dflt (refine' ⟨_, _, _, ?ta_03_2, ?tb_03_2, ?tc_03_2, ?td_03_2⟩; (case ta_03_2 => exact rfl); (case tb_03_2 => assumption); (case tc_03_2 => assumption); (case td_03_2 => (intro z hz; first | rfl | simp [hz])))) | dsimp only [TupEnd]))
    | ((with_reducible show wpAny _ _ (pyIter _) _ _ _); with_reducible ((k_here; (with_reducible show wpAny _ _ (pyIter (Value.ref _)) (fun it s₂ => LoopAtV _ _ _ _ _ _ _ _ _ it s₂) _ _); (with_unfolding_all refine' tup_plain ?k0_03_1 ?k1_03_1 ?k2_03_1 ?k3_03_1 ?k4_03_1 ?k5_03_1 ?kt_03_1 ?kn_03_1; (case k0_03_1 => rfl); (case k1_03_1 => k_asm); (case k2_03_1 => k_asm); (case k3_03_1 => k_mem); (case k4_03_1 => rfl); (case k5_03_1 => rfl)); (case' kn_03_1 => (intro u' h' tk' F' N'; (try k_sweep); (try k_fold))); (case' kt_03_1 => (intro v' h' tk' own' hv' F' N'; (try simp only [List.cons_append] at N'); simp only [List.mem_cons, List.not_mem_nil, or_false] at hv'; rcases hv' with hv' | hv' | hv' <;> (subst hv'; (try k_fold)))))))
    | ((with_reducible show wpAny _ _ (exec (Stmt.For _ _ _ _ _) _) _ _ _); with_reducible ((k_here; (rename Fr _ _ _ _ => lF'); (with_unfolding_all refine' For_invVF lF' ?k1_03_0 ?k2_03_0 ?_; (case k1_03_0 => exact rfl); (case k2_03_0 => exact rfl); k_whole))))
    | walk1
    | (dsimp only; walk1)
    | (leave1; walk_say "STEP leave1"; try dsimp only)
    | fail "no step")
  all_goals exact hret _ _ _ _ (by k_asm) (by k_asm) ⟨⟨_, _, rfl⟩, rfl⟩
inductive QuotOut (led : List (Addr × Obj)) (v : Value) (led' : List (Addr × Obj)) : Prop where
  | mk : ∀ tp p q t3 t4, v = .ref tp → led' = (tp, tupO [.int p t3, .int q t4]) :: led → AllLt tp led → 0 < q → q ≤ 2000 → QuotOut led v led'
set_option maxHeartbeats 8000000 in
theorem quot_ (w : World) {e tt : Int} {t1 t2 : Tok} {led : List (Addr × Obj)} (h0 : 0 < tt) (h1 : tt ≤ 2000) :
    Say prog w (hd.heap_1 w.params) 555 [.int e t1, .int tt t2] led 2 16 (QuotOut led) := by
  refine say_in ?_
  intro p loose mean mg mb dp un gd cn cs a ccd cl outer A₀ base h₀ L m hp₀ gn₀ dr₀ tk₀ os₀ Q E B F X N T hk hd hu hret
  w_on
  refine wpAny_call ?_
  k_dflt ktr_enter
  repeat' (first
    | (k_unfold; (try dsimp only))
    | (k_end; wrow_close)
    | ((with_reducible show wpAny _ _ (binaryOp _ _ _) _ _ _); with_reducible ((k_here; (with_reducible refine floordiv_pos ?h0_12_0 ?h1_12_0 ?h2_12_0 ?_); (case h0_12_0 => first | assumption | omega); (case h1_12_0 => omega); (case h2_12_0 => omega); (intro q' hq'))))
    | ((with_reducible show wpAny _ _ (eval (Expr.Name _ _) _) _ _ _); with_reducible (k_dflt (first | ((with_reducible show wpAny _ _ (eval (Expr.Name _ _) (envOf _ _ _ _ _)) _ _ _); first | (refine' ld ?k1_08_2 ?k2_08_2 ?_ (hk := rfl) (hl := ?kl_08_2) (hd := ?kd_08_2); (case kl_08_2 => kernel_rfl); (case k1_08_2 => with_reducible assumption); (case k2_08_2 => exact rfl); (case kd_08_2 => decide +kernel)) | (refine' name_K ?kF_08_2 ?k1_08_2 ?k2_08_2 ?k3_08_2 ?_ (hk := rfl) (hx := ?kl_08_2) (hd := ?kd_08_2); (case kF_08_2 => with_reducible assumption); (case k1_08_2 => with_reducible assumption); (case k2_08_2 => k_asm); (case k3_08_2 => k_is); (case kl_08_2 => kernel_rfl); (case kd_08_2 => decide +kernel); k_whole)))))
    | ((with_reducible show ite _ _ _); with_reducible ((k_here; k_openite; k_spoken; first | (refine ite_pos (by first | omega | (simp only [decide_eq_true_eq, beq_iff_eq, bne_iff_ne, ne_eq]; omega)) ?_; walk_say "DECIDED") | (refine ite_neg (by first | omega | (simp only [decide_eq_true_eq, beq_iff_eq, bne_iff_ne, ne_eq]; omega)) ?_; walk_say "DECIDED"))))
    | ((fail_if_success (with_reducible show wpAny _ _ _ _ _ _)); with_reducible (first | (dsimp only [TupEnd]; k_dflt (refine' ⟨_, _, _, ?ta_03_2, ?tb_03_2, ?tc_03_2, ?td_03_2⟩; (case ta_03_2 => exact rfl); (case tb_03_2 => assumption); (case tc_03_2 => assumption); (case td_03_2 => (intro z hz; first | rfl | simp [hz])))) | dsimp only [TupEnd]))
    | ((with_reducible show wpAny _ _ (pyIter _) _ _ _); with_reducible ((k_here; (with_reducible show wpAny _ _ (pyIter (Value.ref _)) (fun it s₂ => LoopAtV _ _ _ _ _ _ _ _ _ it s₂) _ _); (with_unfolding_all refine' tup_plain ?k0_03_1 ?k1_03_1 ?k2_03_1 ?k3_03_1 ?k4_03_1 ?k5_03_1 ?kt_03_1 ?kn_03_1; (case k0_03_1 => rfl); (case k1_03_1 => k_asm); (case k2_03_1 => k_asm); (case k3_03_1 => k_mem); (case k4_03_1 => rfl); (case k5_03_1 => rfl)); (case' kn_03_1 => (intro u' h' tk' F' N'; (try k_sweep); (try k_fold))); (case' kt_03_1 => (intro v' h' tk' own' hv' F' N'; (try simp only [List.cons_append] at N'); simp only [List.mem_cons, List.not_mem_nil, or_false] at hv'; rcases hv' with hv' | hv' | hv' <;> (subst hv'; (try k_fold)))))))
    | ((with_reducible show wpAny _ _ (exec (Stmt.For _ _ _ _ _) _) _ _ _); with_reducible ((k_here; (rename Fr _ _ _ _ => lF'); (with_unfolding_all refine' For_invVF lF' ?k1_03_0 ?k2_03_0 ?_; (case k1_03_0 => exact rfl); (case k2_03_0 => exact rfl); k_whole))))
    | walk1
    | (dsimp only; walk1)
    | (leave1; walk_say "STEP leave1"; try dsimp only)
    | fail "no step")
  all_goals exact hret _ _ _ _ (by k_asm) (by k_asm) ⟨_, _, _, _, _, rfl, rfl, by assumption, by assumption, by assumption⟩
theorem bd_le {i k : Nat} {ns : List Int} (h : Bd i ns) (hi : i ≤ 8) : ns.getD k 0 ≤ 2000 := by
  have := bd_getD h k
  omega
theorem bd_pos {i k : Nat} {ns : List Int} (h : Bd i ns) (hn : ns.getD k 0 ≠ 0) : 0 < ns.getD k 0 := by
  have := bd_getD h k
  omega
theorem lt_all {d : Addr} : ∀ {l : List (Addr × Obj)}, AllLt d l → ∀ p ∈ l, p.1 < d := by
  intro l
  induction l with
  | nil => intro _ p h; cases h
  | cons q r ih =>
    intro x p h
    cases h with
    | head => exact x.1
    | tail _ h => exact ih x.2 p h
theorem quot_use {w : World} {e tt : Int} {t1 t2 : Tok} {led : List (Addr × Obj)} {p : Program} {loose : List Str} {mean : ExcName → Option Value} {mg mb : Str → Option Value} {dp un : Nat} {gd : Option (List Code)} {cn : Str} {cs : Scope} {ad : Addr} {ccd : Value} {cl : List (Str × Addr)} {outer : List Env} {A₀ : Around} {base h₀ : Heap} {L : Addr} {m : Str → Option Value} {hp₁ : Heap} {gn₁ : Array GenState} {dr₁ : Drawn} {tk₁ : Nat} {os₁ : OsState}
    {Q E : Value → Shared → Prop} (h0 : 0 < tt) (h1 : tt ≤ 2000) (B : Below A₀ base outer h₀) (F : Fr h₀ L hp₁ m) (X : (hd.heap_1 w.params).In h₀) (N : News h₀ L hp₁ led) (T : Top p loose mean mg mb h₀) (hk : cs.kind = .function)
    (hd : dp + 2 < recursionLimit) (hu : un + 16 < cLine)
    (ret : ∀ (tp : Addr) (p q : Int) (t3 t4 : Tok) h' tk', (∀ x ∈ led, x.1 < tp) → 0 < q → q ≤ 2000 → Fr h₀ L h' m → News h₀ L h' ((tp, tupO [.int p t3, .int q t4]) :: led) → Q (.ref tp) (.mk h' gn₁ dr₁ tk' os₁)) :
    wpAny (model prog w) (ktrTop dp un gd cn cs L ad ccd cl outer) (call (.ref 555) [.int e t1, .int tt t2]) Q E (.mk hp₁ gn₁ dr₁ tk₁ os₁) := by
  refine quot_ w h0 h1 p loose mean mg mb dp un gd cn cs ad ccd cl outer A₀ base h₀ L m (.mk hp₁ gn₁ dr₁ tk₁ os₁) Q E B F X N T hk hd hu ?_
  rintro v led' h' tk' F' N' ⟨tp, p, q, t3, t4, rfl, rfl, l1, q0, q1⟩
  exact ret tp p q t3 t4 h' tk' (lt_all l1) q0 q1 F' N'
inductive GlueOut (led : List (Addr × Obj)) (v : Value) (led' : List (Addr × Obj)) : Prop where
  | mk : ∀ (tp rp rt : Addr) (sg od a b p q : Int) (t1 t2 t3 t4 t5 t6 : Tok), v = .ref tp → led' = (tp, tupO [.int sg t1, .int od t2, .ref rt, .ref rp]) :: (rp, tupO [.int a t3, .int b t4]) :: (rt, tupO [.int p t5, .int q t6]) :: led → AllLt tp led → AllLt rp led → AllLt rt led → 0 < q → q ≤ 2000 → GlueOut led v led'
set_option maxHeartbeats 8000000 in
theorem glue_ (w : World) {x dx ls lk : Addr} {a0 a1 a2 tn t : Tok} {nat e : Int} {vs1 vs2 : List Value} {n1 n2 i : Nat} {ns1 ns2 : List Int} {led : List (Addr × Obj)} (m1 : (x, instObj 297 dx) ∈ led) (m2 : (dx, totD w.params a0 a1 a2 ls lk nat tn) ∈ led) (m3 : (ls, listOf vs1.toArray n1) ∈ led) (m4 : (lk, listOf vs2.toArray n2) ∈ led)
    (i1 : IntsAre vs1 ns1) (i2 : IntsAre vs2 ns2) (e1 : ns1.length = 4) (e2 : ns2.length = 4) (b1 : Bd i ns1) (b2 : Bd i ns2) (h8 : i ≤ 8) :
    Say prog w (hd.heap_1 w.params) 562 [.ref x, .int e t] led 5 64 (GlueOut led) := by
  refine say_in ?_
  intro p loose mean mg mb dp un gd cn cs a ccd cl outer A₀ base h₀ L m hp₀ gn₀ dr₀ tk₀ os₀ Q E B F X N T hk hd hu hret
  w_on
  refine wpAny_call ?_
  k_dflt ktr_enter
  repeat' (first
    | (k_unfold; (try dsimp only))
    | (k_end; wrow_close)
    | ((with_reducible show wpAny _ _ (call _ _) _ _ _); (try k_fold); first
      | with_reducible ((k_here; (with_reducible show wpAny _ _ (call (Value.ref 555) [Value.int _ _, Value.int _ _]) _ _ _); k_dflt (refine' quot_use ?kl_13_2 ?ki_13_2 ?k1_13_2 ?k2_13_2 ?k3_13_2 ?k4_13_2 ?k5_13_2 ?kK_13_2 ?kd_13_2 ?ku_13_2 ?_; (case k1_13_2 => k_asm); (case k2_13_2 => k_asm); (case k3_13_2 => k_asm); (case k4_13_2 => k_asm); (case k5_13_2 => k_asm); (case kK_13_2 => first | exact rfl | assumption); (case kd_13_2 => k_room); (case ku_13_2 => k_units); (case kl_13_2 => first | exact bd_pos (by assumption) (by assumption) | omega); (case ki_13_2 => exact bd_le (by assumption) (by assumption)); k_whole); intro tp' p' q' t3' t4' h' tk' l1' q0' q1' F' N'; (try k_lt l1'); (try k_sweep)))
      | with_reducible ((k_here; (with_reducible show wpAny _ _ (call (Value.ref 152) [Value.int _ _, Value.int _ _]) _ _ _); k_dflt (refine' sayL_use (bad_ _ ?kl_13_1 ?ki_13_1) ?k1_13_1 ?k2_13_1 ?k3_13_1 ?k4_13_1 ?k5_13_1 ?kK_13_1 ?kd_13_1 ?ku_13_1 ?_; (case k1_13_1 => k_asm); (case k2_13_1 => k_asm); (case k3_13_1 => k_asm); (case k4_13_1 => k_asm); (case k5_13_1 => k_asm); (case kK_13_1 => first | exact rfl | assumption); (case kd_13_1 => k_room); (case ku_13_1 => k_units); (case kl_13_1 => omega); (case ki_13_1 => exact bd_le (by assumption) (by assumption)); k_whole); intro v' h' tk' r' F' N'; obtain ⟨k', t', e'⟩ := r'; subst e'; (try k_sweep)))
      | with_reducible ((k_here; (with_reducible show wpAny _ _ (call (Value.ref 245) [Value.ref _]) _ _ _); k_dflt (refine' sayL_use (top_ _ ?kl_13_0 ?ki_13_0 ?kn_13_0) ?k1_13_0 ?k2_13_0 ?k3_13_0 ?k4_13_0 ?k5_13_0 ?kK_13_0 ?kd_13_0 ?ku_13_0 ?_; (case k1_13_0 => k_asm); (case k2_13_0 => k_asm); (case k3_13_0 => k_asm); (case k4_13_0 => k_asm); (case k5_13_0 => k_asm); (case kK_13_0 => first | exact rfl | assumption); (case kd_13_0 => k_room); (case ku_13_0 => k_units); (case kl_13_0 => k_mem); (case ki_13_0 => with_reducible assumption); (case kn_13_0 => with_reducible assumption); k_whole); intro v' h' tk' r' F' N'; obtain ⟨k', t', e', k0', k1'⟩ := r'; subst e'; (try k_sweep)))
      | with_reducible ((k_here; (with_reducible show wpAny _ _ (call (Value.ref 110) [Value.int _ _]) _ _ _); k_dflt (refine' sayP_use (dimen_ _ _ _ ?h1_05_1 ?h2_05_1) ?k1_05_1 ?k2_05_1 ?k3_05_1 ?k4_05_1 ?k5_05_1 ?kK_05_1 ?kd_05_1 ?ku_05_1 ?_; (case h1_05_1 => first | assumption | omega); (case h2_05_1 => first | assumption | omega); (case k1_05_1 => k_asm); (case k2_05_1 => k_asm); (case k3_05_1 => k_asm); (case k4_05_1 => k_asm); (case k5_05_1 => k_asm); (case kK_05_1 => first | exact rfl | assumption); (case kd_05_1 => k_room); (case ku_05_1 => k_units); k_whole); intro v' h' tk' e' F' N'; subst e'; (try k_sweep))))
    | ((with_reducible show wpAny _ _ (eval (Expr.Name _ _) _) _ _ _); with_reducible (k_dflt (first | ((with_reducible show wpAny _ _ (eval (Expr.Name _ _) (envOf _ _ _ _ _)) _ _ _); first | (refine' ld ?k1_08_2 ?k2_08_2 ?_ (hk := rfl) (hl := ?kl_08_2) (hd := ?kd_08_2); (case kl_08_2 => kernel_rfl); (case k1_08_2 => with_reducible assumption); (case k2_08_2 => exact rfl); (case kd_08_2 => decide +kernel)) | (refine' name_K ?kF_08_2 ?k1_08_2 ?k2_08_2 ?k3_08_2 ?_ (hk := rfl) (hx := ?kl_08_2) (hd := ?kd_08_2); (case kF_08_2 => with_reducible assumption); (case k1_08_2 => with_reducible assumption); (case k2_08_2 => k_asm); (case k3_08_2 => k_is); (case kl_08_2 => kernel_rfl); (case kd_08_2 => decide +kernel); k_whole)))))
    | ((with_reducible show ite _ _ _); first
      | with_reducible ((k_closed; k_dflt (first | refine ite_pos (by decide) ?_ | refine ite_neg (by decide) ?_)))
      | with_reducible ((k_here; k_openite; k_spoken; first | (refine ite_pos (by first | omega | (simp only [decide_eq_true_eq, beq_iff_eq, bne_iff_ne, ne_eq]; omega)) ?_; walk_say "DECIDED") | (refine ite_neg (by first | omega | (simp only [decide_eq_true_eq, beq_iff_eq, bne_iff_ne, ne_eq]; omega)) ?_; walk_say "DECIDED"))))
    | walk1
    | (dsimp only; walk1)
    | (leave1; walk_say "STEP leave1"; try dsimp only)
    | fail "no step")
  all_goals exact hret _ _ _ _ (by k_asm) (cb_drop (by k_asm) (by kcf_all)) ⟨_, _, _, _, _, _, _, _, _, _, _, _, _, _, _, rfl, rfl, by assumption, by assumption, by assumption, by first | assumption | decide, by first | assumption | decide⟩
set_option maxHeartbeats 8000000 in
theorem goal_ (w : World) {own mode am : Int} {t1 t2 t3 : Tok} {led : List (Addr × Obj)} (h0 : 0 ≤ mode) (h1 : mode ≤ 1) (h2 : -1073741823 ≤ am) (h3 : am ≤ 1073741823) :
    Say prog w (hd.heap_1 w.params) 597 [.int own t1, .int mode t2, .int am t3] led 5 40 (fun v led' => AnInt v ∧ led' = led) := by
  refine say_in ?_
  intro p loose mean mg mb dp un gd cn cs a ccd cl outer A₀ base h₀ L m hp₀ gn₀ dr₀ tk₀ os₀ Q E B F X N T hk hd hu hret
  w_on
  refine wpAny_call ?_
  k_dflt ktr_enter
  repeat' (first
    | (k_unfold; (try dsimp only))
    | (k_end; wrow_close)
    | ((with_reducible show wpAny _ _ (call _ _) _ _ _); (try k_fold); first
      | with_reducible ((k_here; (with_reducible show wpAny _ _ (call (Value.ref 555) [Value.int _ _, Value.int _ _]) _ _ _); k_dflt (refine' quot_use ?kl_13_2 ?ki_13_2 ?k1_13_2 ?k2_13_2 ?k3_13_2 ?k4_13_2 ?k5_13_2 ?kK_13_2 ?kd_13_2 ?ku_13_2 ?_; (case k1_13_2 => k_asm); (case k2_13_2 => k_asm); (case k3_13_2 => k_asm); (case k4_13_2 => k_asm); (case k5_13_2 => k_asm); (case kK_13_2 => first | exact rfl | assumption); (case kd_13_2 => k_room); (case ku_13_2 => k_units); (case kl_13_2 => first | exact bd_pos (by assumption) (by assumption) | omega); (case ki_13_2 => exact bd_le (by assumption) (by assumption)); k_whole); intro tp' p' q' t3' t4' h' tk' l1' q0' q1' F' N'; (try k_lt l1'); (try k_sweep)))
      | with_reducible ((k_here; (with_reducible show wpAny _ _ (call (Value.ref 152) [Value.int _ _, Value.int _ _]) _ _ _); k_dflt (refine' sayL_use (bad_ _ ?kl_13_1 ?ki_13_1) ?k1_13_1 ?k2_13_1 ?k3_13_1 ?k4_13_1 ?k5_13_1 ?kK_13_1 ?kd_13_1 ?ku_13_1 ?_; (case k1_13_1 => k_asm); (case k2_13_1 => k_asm); (case k3_13_1 => k_asm); (case k4_13_1 => k_asm); (case k5_13_1 => k_asm); (case kK_13_1 => first | exact rfl | assumption); (case kd_13_1 => k_room); (case ku_13_1 => k_units); (case kl_13_1 => omega); (case ki_13_1 => exact bd_le (by assumption) (by assumption)); k_whole); intro v' h' tk' r' F' N'; obtain ⟨k', t', e'⟩ := r'; subst e'; (try k_sweep)))
      | with_reducible ((k_here; (with_reducible show wpAny _ _ (call (Value.ref 245) [Value.ref _]) _ _ _); k_dflt (refine' sayL_use (top_ _ ?kl_13_0 ?ki_13_0 ?kn_13_0) ?k1_13_0 ?k2_13_0 ?k3_13_0 ?k4_13_0 ?k5_13_0 ?kK_13_0 ?kd_13_0 ?ku_13_0 ?_; (case k1_13_0 => k_asm); (case k2_13_0 => k_asm); (case k3_13_0 => k_asm); (case k4_13_0 => k_asm); (case k5_13_0 => k_asm); (case kK_13_0 => first | exact rfl | assumption); (case kd_13_0 => k_room); (case ku_13_0 => k_units); (case kl_13_0 => k_mem); (case ki_13_0 => with_reducible assumption); (case kn_13_0 => with_reducible assumption); k_whole); intro v' h' tk' r' F' N'; obtain ⟨k', t', e', k0', k1'⟩ := r'; subst e'; (try k_sweep)))
      | with_reducible ((k_here; (with_reducible show wpAny _ _ (call (Value.ref 110) [Value.int _ _]) _ _ _); k_dflt (refine' sayP_use (dimen_ _ _ _ ?h1_05_1 ?h2_05_1) ?k1_05_1 ?k2_05_1 ?k3_05_1 ?k4_05_1 ?k5_05_1 ?kK_05_1 ?kd_05_1 ?ku_05_1 ?_; (case h1_05_1 => first | assumption | omega); (case h2_05_1 => first | assumption | omega); (case k1_05_1 => k_asm); (case k2_05_1 => k_asm); (case k3_05_1 => k_asm); (case k4_05_1 => k_asm); (case k5_05_1 => k_asm); (case kK_05_1 => first | exact rfl | assumption); (case kd_05_1 => k_room); (case ku_05_1 => k_units); k_whole); intro v' h' tk' e' F' N'; subst e'; (try k_sweep))))
    | ((with_reducible show wpAny _ _ (eval (Expr.Name _ _) _) _ _ _); with_reducible (k_dflt (first | ((with_reducible show wpAny _ _ (eval (Expr.Name _ _) (envOf _ _ _ _ _)) _ _ _); first | (refine' ld ?k1_08_2 ?k2_08_2 ?_ (hk := rfl) (hl := ?kl_08_2) (hd := ?kd_08_2); (case kl_08_2 => kernel_rfl); (case k1_08_2 => with_reducible assumption); (case k2_08_2 => exact rfl); (case kd_08_2 => decide +kernel)) | (refine' name_K ?kF_08_2 ?k1_08_2 ?k2_08_2 ?k3_08_2 ?_ (hk := rfl) (hx := ?kl_08_2) (hd := ?kd_08_2); (case kF_08_2 => with_reducible assumption); (case k1_08_2 => with_reducible assumption); (case k2_08_2 => k_asm); (case k3_08_2 => k_is); (case kl_08_2 => kernel_rfl); (case kd_08_2 => decide +kernel); k_whole)))))
    | ((with_reducible show ite _ _ _); first
      | with_reducible ((k_closed; k_dflt (first | refine ite_pos (by decide) ?_ | refine ite_neg (by decide) ?_)))
      | with_reducible ((k_here; k_openite; k_spoken; first | (refine ite_pos (by first | omega | (simp only [decide_eq_true_eq, beq_iff_eq, bne_iff_ne, ne_eq]; omega)) ?_; walk_say "DECIDED") | (refine ite_neg (by first | omega | (simp only [decide_eq_true_eq, beq_iff_eq, bne_iff_ne, ne_eq]; omega)) ?_; walk_say "DECIDED"))))
    | walk1
    | (dsimp only; walk1)
    | (leave1; walk_say "STEP leave1"; try dsimp only)
    | fail "no step")
  all_goals exact hret _ _ _ _ (by k_asm) (by k_asm) ⟨⟨_, _, rfl⟩, rfl⟩
abbrev boxO (P : Params) (a0 a1 a2 a3 a4 a5 a6 a7 a8 : Tok) (vk vw vh vd : Value) (it : Addr) (vs vg vo : Value) (rt : Addr) : Obj :=
  dictOf [ent P "kind" a0 vk, ent P "width" a1 vw, ent P "height" a2 vh, ent P "depth" a3 vd, ent P "items" a4 (.ref it), ent P "shift" a5 vs, ent P "sign" a6 vg, ent P "order" a7 vo, ent P "ratio" a8 (.ref rt)] 9
theorem ne_nil {w : World} {A : Around} {E : Value → Shared → Prop} {hp₁ : Heap} {gn₁ : Array GenState} {dr₁ : Drawn} {tk₁ : Nat} {os₁ : OsState} {h₀ : Heap} {L l e : Addr} {led : List (Addr × Obj)} {vs : List Value} {n k : Nat} {Q : Value → Shared → Prop} (N : News h₀ L hp₁ led) (h1 : (l, listOf vs.toArray n) ∈ led) (h2 : (e, listOf #[] k) ∈ led) (hv : 0 < vs.length) (hu : A.units < cLine) (h : Q (.bool true) (.mk hp₁ gn₁ dr₁ tk₁ os₁)) :
    wpAny (model prog w) A (compareOp .NotEq (.ref l) (.ref e)) Q E (.mk hp₁ gn₁ dr₁ tk₁ os₁) :=
  PySem.SeqAt.RcNeAt.lists_lengths (items := vs.toArray) (items2 := #[]) ⟨_, N.get h1, rfl, n, rfl⟩ ⟨_, N.get h2, rfl, k, rfl⟩ (by simpa using List.ne_nil_of_length_pos hv) hu prog w E Q h
theorem glue_use {w : World} {x dx ls lk : Addr} {a0 a1 a2 tn t : Tok} {nat e : Int} {vs1 vs2 : List Value} {n1 n2 i : Nat} {ns1 ns2 : List Int} {led : List (Addr × Obj)} {p : Program} {loose : List Str} {mean : ExcName → Option Value} {mg mb : Str → Option Value} {dp un : Nat} {gd : Option (List Code)} {cn : Str} {cs : Scope} {ad : Addr} {ccd : Value} {cl : List (Str × Addr)} {outer : List Env} {A₀ : Around} {base h₀ : Heap} {L : Addr} {m : Str → Option Value} {hp₁ : Heap} {gn₁ : Array GenState} {dr₁ : Drawn} {tk₁ : Nat} {os₁ : OsState}
    {Q E : Value → Shared → Prop} (m1 : (x, instObj 297 dx) ∈ led) (m2 : (dx, totD w.params a0 a1 a2 ls lk nat tn) ∈ led) (m3 : (ls, listOf vs1.toArray n1) ∈ led) (m4 : (lk, listOf vs2.toArray n2) ∈ led)
    (i1 : IntsAre vs1 ns1) (i2 : IntsAre vs2 ns2) (e1 : ns1.length = 4) (e2 : ns2.length = 4) (b1 : Bd i ns1) (b2 : Bd i ns2) (h8 : i ≤ 8) (B : Below A₀ base outer h₀) (F : Fr h₀ L hp₁ m) (X : (hd.heap_1 w.params).In h₀) (N : News h₀ L hp₁ led) (T : Top p loose mean mg mb h₀) (hk : cs.kind = .function)
    (hd : dp + 5 < recursionLimit) (hu : un + 64 < cLine)
    (ret : ∀ (tp rp rt : Addr) (sg od a b p q : Int) (t1 t2 t3 t4 t5 t6 : Tok) h' tk', (∀ y ∈ led, y.1 < tp) → (∀ y ∈ led, y.1 < rp) → (∀ y ∈ led, y.1 < rt) → 0 < q → q ≤ 2000 → Fr h₀ L h' m → News h₀ L h' ((tp, tupO [.int sg t1, .int od t2, .ref rt, .ref rp]) :: (rp, tupO [.int a t3, .int b t4]) :: (rt, tupO [.int p t5, .int q t6]) :: led) → Q (.ref tp) (.mk h' gn₁ dr₁ tk' os₁)) :
    wpAny (model prog w) (ktrTop dp un gd cn cs L ad ccd cl outer) (call (.ref 562) [.ref x, .int e t]) Q E (.mk hp₁ gn₁ dr₁ tk₁ os₁) := by
  refine glue_ w m1 m2 m3 m4 i1 i2 e1 e2 b1 b2 h8 p loose mean mg mb dp un gd cn cs ad ccd cl outer A₀ base h₀ L m (.mk hp₁ gn₁ dr₁ tk₁ os₁) Q E B F X N T hk hd hu ?_
  rintro v led' h' tk' F' N' ⟨tp, rp, rt, sg, od, a, b, p, q, t1, t2, t3, t4, t5, t6, rfl, rfl, l1, l2, l3, q0, q1⟩
  exact ret tp rp rt sg od a b p q t1 t2 t3 t4 t5 t6 h' tk' (lt_all l1) (lt_all l2) (lt_all l3) q0 q1 F' N'
inductive SetOut (P : Params) (dbx : Addr) (a0 a1 a2 a3 a4 a5 a6 a7 a8 : Tok) (vk vw vh vd : Value) (it : Addr) (vsh : Value) (rest : List (Addr × Obj)) (v : Value) (led' : List (Addr × Obj)) : Prop where
  | mk : ∀ (rp rt : Addr) (sg od p q : Int) (t1 t2 t3 t4 : Tok), v = .ref rp → led' = (rt, tupO [.int p t3, .int q t4]) :: (dbx, boxO P a0 a1 a2 a3 a4 a5 a6 a7 a8 vk vw vh vd it vsh (.int sg t1) (.int od t2) rt) :: rest → @LT.lt Nat _ dbx rt → AllLt rt rest → 0 < q → q ≤ 2000 → SetOut P dbx a0 a1 a2 a3 a4 a5 a6 a7 a8 vk vw vh vd it vsh rest v led'
set_option maxHeartbeats 8000000 in
theorem setbox_ (w : World) {bx dbx it x dx ls lk rt0 : Addr} {a0 a1 a2 tn t b0 b1' b2' b3 b4 b5 b6 b7 b8 : Tok} {vk vw vh vd vsh vg vo : Value} {nat e : Int} {vs vs1 vs2 : List Value} {nn n1 n2 i : Nat} {ns1 ns2 : List Int} {rest : List (Addr × Obj)}
    (m0 : (bx, instObj 342 dbx) ∈ rest) (mi : (it, listOf vs.toArray nn) ∈ rest) (hv : 0 < vs.length) (m1 : (x, instObj 297 dx) ∈ rest) (m2 : (dx, totD w.params a0 a1 a2 ls lk nat tn) ∈ rest) (m3 : (ls, listOf vs1.toArray n1) ∈ rest) (m4 : (lk, listOf vs2.toArray n2) ∈ rest)
    (i1 : IntsAre vs1 ns1) (i2 : IntsAre vs2 ns2) (e1 : ns1.length = 4) (e2 : ns2.length = 4) (b1 : Bd i ns1) (b2 : Bd i ns2) (h8 : i ≤ 8) (hoff : ∀ p ∈ rest, p.1 ≠ dbx) :
    Say prog w (hd.heap_1 w.params) 604 [.ref bx, .ref x, .int e t] ((dbx, boxO w.params b0 b1' b2' b3 b4 b5 b6 b7 b8 vk vw vh vd it vsh vg vo rt0) :: rest) 7 90 (SetOut w.params dbx b0 b1' b2' b3 b4 b5 b6 b7 b8 vk vw vh vd it vsh rest) := by
  refine say_in ?_
  intro p loose mean mg mb dp un gd cn cs a ccd cl outer A₀ base h₀ L m hp₀ gn₀ dr₀ tk₀ os₀ Q E B F X N T hk hd hu hret
  w_on
  refine wpAny_call ?_
  k_dflt ktr_enter
  repeat' (first
    | (k_unfold; (try dsimp only))
    | (k_end; wrow_close)
    | ((with_reducible show wpAny _ _ (call _ _) _ _ _); (try k_fold); with_reducible ((k_here; (with_reducible show wpAny _ _ (call (Value.ref 562) [Value.ref _, Value.int _ _]) _ _ _); k_dflt (refine' glue_use ?m1_14_1 ?m2_14_1 ?m3_14_1 ?m4_14_1 ?i1_14_1 ?i2_14_1 ?e1_14_1 ?e2_14_1 ?b1_14_1 ?b2_14_1 ?b3_14_1 ?k1_14_1 ?k2_14_1 ?k3_14_1 ?k4_14_1 ?k5_14_1 ?kK_14_1 ?kd_14_1 ?ku_14_1 ?_; (case k1_14_1 => k_asm); (case k2_14_1 => k_asm); (case k3_14_1 => k_asm); (case k4_14_1 => k_asm); (case k5_14_1 => k_asm); (case kK_14_1 => first | exact rfl | assumption); (case kd_14_1 => k_room); (case ku_14_1 => k_units); (case m1_14_1 => k_mem); (case m2_14_1 => k_mem); (case m3_14_1 => k_mem); (case m4_14_1 => k_mem); (case i1_14_1 => with_reducible assumption); (case i2_14_1 => with_reducible assumption); (case e1_14_1 => with_reducible assumption); (case e2_14_1 => with_reducible assumption); (case b1_14_1 => with_reducible assumption); (case b2_14_1 => with_reducible assumption); (case b3_14_1 => with_reducible assumption); k_whole); intro tp' rp' rt' sg' od' a' b' p' q' t1' t2' t3' t4' t5' t6' h' tk' l1' l2' l3' q0' q1' F' N'; (try k_lt l1'); (try k_lt l2'); (try k_lt l3'); (try k_sweep))))
    | ((with_reducible show wpAny _ _ (compareOp _ _ _) _ _ _); with_reducible ((k_here; (with_reducible show wpAny _ _ (compareOp CmpOp.NotEq (Value.ref _) (Value.ref _)) _ _ _); k_dflt (refine' ne_nil ?k1_14_0 ?k2_14_0 ?k3_14_0 ?k4_14_0 ?k5_14_0 ?_; (case k1_14_0 => k_asm); (case k2_14_0 => k_mem); (case k3_14_0 => k_mem); (case k4_14_0 => with_reducible assumption); (case k5_14_0 => k_units); k_whole))))
    | ((with_reducible show wpAny _ _ (eval (Expr.Name _ _) _) _ _ _); with_reducible (k_dflt (first | ((with_reducible show wpAny _ _ (eval (Expr.Name _ _) (envOf _ _ _ _ _)) _ _ _); first | (refine' ld ?k1_08_2 ?k2_08_2 ?_ (hk := rfl) (hl := ?kl_08_2) (hd := ?kd_08_2); (case kl_08_2 => kernel_rfl); (case k1_08_2 => with_reducible assumption); (case k2_08_2 => exact rfl); (case kd_08_2 => decide +kernel)) | (refine' name_K ?kF_08_2 ?k1_08_2 ?k2_08_2 ?k3_08_2 ?_ (hk := rfl) (hx := ?kl_08_2) (hd := ?kd_08_2); (case kF_08_2 => with_reducible assumption); (case k1_08_2 => with_reducible assumption); (case k2_08_2 => k_asm); (case k3_08_2 => k_is); (case kl_08_2 => kernel_rfl); (case kd_08_2 => decide +kernel); k_whole)))))
    | ((with_reducible show ite _ _ _); with_reducible ((k_closed; k_dflt (first | refine ite_pos (by decide) ?_ | refine ite_neg (by decide) ?_))))
    | walk1
    | (dsimp only; walk1)
    | (leave1; walk_say "STEP leave1"; try dsimp only)
    | fail "no step")
  all_goals exact hret _ _ _ _ (by k_asm) (cb_drop (by k_asm) (by kcf_all)) ⟨_, _, _, _, _, _, _, _, _, _, rfl, rfl, by omega, by assumption, by assumption, by assumption⟩
/-- an own class of exceptions: its row in K -/
def ovIn (K : Frag) (C D : Addr) (nid : String) : Bool := match K.lookup C with
  | some ⟨ty, _, .cls cd, sl⟩ => decide (ty = .type "type") && decide (cd.mro = .ref C :: .ref D :: [.type "ValueError", .type "Exception", .type "BaseException", .type "object"]) && !cd.hasDel && cd.hasDict && decide (sl.size = 6) && decide (sl[4]? = some (some (.builtin nid)))
  | _ => false
abbrev bmVE : List Value := [.type "ValueError", .type "Exception", .type "BaseException", .type "object"]
theorem six {sl : Array (Option Value)} {n : String} (h : sl.size = 6) (h4 : sl[4]? = some (some (.builtin n))) : ∃ k0 k1 k2 k3 k5, sl = #[k0, k1, k2, k3, some (.builtin n), k5] := by
  obtain ⟨l⟩ := sl
  match l, h with
  | [a, b, c, d, e, f], _ =>
    have : e = some (.builtin n) := by simpa using h4
    subst this
    exact ⟨a, b, c, d, f, rfl⟩
theorem ov_cls {K : Frag} {h : Heap} {C D : Addr} {nid : String} (X : K.In h) (q : ovIn K C D nid = true) : ∃ nm qn N bs hdct sn sub ab col dd k0 k1 k2 k3 k5,
    h.get? C = some (excClassObj nm qn C N bs (.ref D :: bmVE) hdct sn sub ab col dd k0 k1 k2 k3 k5 nid) := by
  unfold ovIn at q
  split at q
  · rename_i ty dd cd sl ho
    simp only [Bool.and_eq_true, decide_eq_true_eq, Bool.not_eq_true'] at q
    obtain ⟨⟨⟨⟨⟨rfl, hm⟩, hdel⟩, hdct⟩, h6⟩, h4⟩ := q
    obtain ⟨nm, bs, mro, ns, qn, hd, sn, sub, ab, col, del⟩ := cd
    dsimp only at hm hdel
    subst hm hdel
    obtain ⟨k0, k1, k2, k3, k5, rfl⟩ := six h6 h4
    exact ⟨nm, qn, ns, bs, hd, sn, sub, ab, col, dd, k0, k1, k2, k3, k5, X _ _ ho⟩
  · cases q
theorem ov64 (P : Params) : ovIn (hd.heap_1 P) 64 39 "ValueError.__new__" = true := by kernel_rfl
theorem ov64_init (P : Params) : findIn (hd.heap_1 P) (.ref 64) (Str.ofString "__init__") = some (some (.ref 36)) := by kernel_rfl
theorem ov64_set (P : Params) : findIn (hd.heap_1 P) (.ref 64) (Str.ofString "__setattr__") = some (some (.builtin "object.__setattr__")) := by kernel_rfl
theorem ov64_reason (P : Params) : findIn (hd.heap_1 P) (.ref 64) (Str.ofString "reason") = some none := by kernel_rfl
theorem ov_cd {K : Frag} {C D : Addr} {nid : String} (q : ovIn K C D nid = true) : ∃ cd, clsIn K C = some cd ∧ cd.mro = .ref C :: .ref D :: bmVE ∧ cd.hasDict = true := by
  unfold ovIn at q
  split at q
  · rename_i ty dd cd sl ho
    simp only [Bool.and_eq_true, decide_eq_true_eq, Bool.not_eq_true'] at q
    obtain ⟨⟨⟨⟨⟨rfl, hm⟩, hdel⟩, hdct⟩, h6⟩, h4⟩ := q
    exact ⟨cd, by unfold clsIn; rw [ho], hm, hdct⟩
  · cases q
section
variable {M : Model} {A : Around} {E : Value → Shared → Prop} {h : Heap} {g : Array GenState} {d : Drawn} {t : Nat} {os : OsState}
variable {nm q : Str} {C N : Addr} {bs bm bmB : List Value} {hdct : Bool} {sn : List Str} {sub : List Value} {ab : Bool} {col : Option Bool} {dd : Option Addr} {k0 k1 k2 k3 k5 : Option Value} {B newId initId : String}
theorem ov_check_new (F : ExcBaseFacts B newId initId bmB) (hcont : (Value.ref C :: bm).contains (.type B) = true) {rest : List Value} {Q : Unit → Shared → Prop} (hC : h.get? C = some (excClassObj nm q C N bs bm hdct sn sub ab col dd k0 k1 k2 k3 k5 newId))
    (hq : Q () ⟨h, g, d, t, os⟩) : wpAny M A (checkBuiltinCall newId ⟨.ref C :: rest, []⟩) Q E ⟨h, g, d, t, os⟩ := by
  have hstar := F.noStar
  simp only [checkBuiltinCall, F.newKind, F.newSplit, F.newRow]
  repeat (first | refine wpAny_loadPart_at hC ?_ | (refine wpAny_isSubtype_exc hC ?_; rw [hcont]) | refine wpAny_staticBase_exc hC ?_ | refine wpAny_madeBy_exc hC ?_ | simp only [bne_self_eq_false, Bool.false_eq_true, if_false] | wp_step)
  exact hq
end
section
variable {prog : Program} {w : World} {A : Around} {R : Result → Shared → Prop} {h : Heap} {g : Array GenState} {d : Drawn} {t : Nat} {os : OsState}
variable {nm q : Str} {C N : Addr} {bs bm bmB : List Value} {hdct : Bool} {sn : List Str} {sub : List Value} {ab : Bool} {col : Option Bool} {dd : Option Addr} {k0 k1 k2 k3 k5 : Option Value} {B newId initId : String}
theorem ov_new (F : ExcBaseFacts B newId initId bmB) (hcB : (Value.ref C :: bm).contains (.type B) = true) (hcA : (Value.ref C :: bm).contains (.type "AttributeError") = false) (hcN : (Value.ref C :: bm).contains (.type "NameError") = false) {rest : List Value}
    (hC : h.get? C = some (excClassObj nm q C N bs bm hdct sn sub ab col dd k0 k1 k2 k3 k5 newId))
    (hq : R (.ok (.ret (.ref (h.objs.size + 1)))) ⟨(h.push { cls := .type "tuple", data := .seq rest.toArray }).push
      { cls := .ref C, data := .fields #[.ref h.objs.size, .none, .none, .none, .bool false, .none] }, g, d, t, os⟩) (hrest : rest.length ≤ sizeLine := by size_fits) :
    codeAny (model prog w) A (.builtin newId ⟨.ref C :: rest, []⟩) R ⟨h, g, d, t, os⟩ := by
  have hends := F.ends
  refine codeAny_builtinAt F.entry ?_
  unfold Builtin.«BaseException.__new__»
  refine PySem.wpAt_bind ?_
  show PySem.wpAt _ _ _ (stack >>= _) _ _ _
  refine PySem.wpAt_bind (PySem.wpAt_stack fun p below => PySem.wpAt_of_wpAny ?_)
  wp_walk
  refine PySem.wpAt_of_wpAny ?_
  rw [F.owner]
  repeat (first | with_reducible refine wpAny_madeHere_exc F.canon hC ?_ | with_reducible refine wpAny_loadPart_at hC ?_ | (with_reducible refine wpAny_isSubtype_exc hC ?_; first | rw [hcB] | rw [hcA] | rw [hcN]) | wp_step)
  show R _ _
  rw [Heap.size_push]
  exact hq
end
section
variable {prog : Program} {w : World} {A : Around} {E : Value → Shared → Prop} {h : Heap} {g : Array GenState} {d : Drawn} {t : Nat} {os : OsState}
variable {nm q : Str} {C N : Addr} {bs bm bmB : List Value} {hdct : Bool} {sn : List Str} {sub : List Value} {ab : Bool} {col : Option Bool} {dd : Option Addr} {k0 k1 k2 k3 k5 : Option Value} {B newId initId : String}
theorem ov_type_call (F : ExcBaseFacts B newId initId bmB) (hcB : (Value.ref C :: bm).contains (.type B) = true) (hcA : (Value.ref C :: bm).contains (.type "AttributeError") = false) (hcN : (Value.ref C :: bm).contains (.type "NameError") = false) {rest : List Value} {fI : Addr} {oI : Obj} {Q : Fin → Shared → Prop}
    (hC : h.get? C = some (excClassObj nm q C N bs bm hdct sn sub ab col dd k0 k1 k2 k3 k5 newId)) (look : Looks (model prog w) h (typeLookup (.ref C) "__init__") (some (.ref fI)))
    (hfI : h.get? fI = some oI) (hfc : oI.cls = .type "function")
    (hq : ∀ h' e, Heap.MadeExcOf h h' e (.ref C) rest →
      wpAny (model prog w) A (call (.ref fI) (.ref e :: rest)) (fun r s' => r = .none ∧ Q (.done (.ret (.ref e))) s') E ⟨h', g, d, t, os⟩) (hrest : rest.length ≤ sizeLine := by size_fits) :
    wpAny (model prog w) A (Builtin.«type.__call__» ⟨.ref C :: rest, []⟩) Q E ⟨h, g, d, t, os⟩ := by
  repeat (first | with_reducible refine wpAny_loadPart_at hC ?_ | with_reducible refine wpAny_madeBy_exc hC ?_ | wp_step)
  refine codeAny_call_builtin_code (Code.quiet_builtin _ F.quiet) (ov_check_new F hcB hC ?_)
  refine ov_new F hcB hcA hcN hC ?_ hrest
  show wpAny _ _ _ _ _ _
  have kp : ∀ b o, h.get? b = some o → ((h.push { cls := .type "tuple", data := .seq rest.toArray }).push { cls := .ref C, data := .fields #[.ref h.objs.size, .none, .none, .none, .bool false, .none] }).get? b = some o := fun b o hb =>
    Heap.get?_push_of_some _ (Heap.get?_push_of_some _ hb)
  have hC₁ := kp _ _ hC
  have hfI₁ := kp _ _ hfI
  have hget : ((h.push { cls := .type "tuple", data := .seq rest.toArray }).push
      { cls := .ref C, data := .fields #[.ref h.objs.size, .none, .none, .none, .bool false, .none] }).get? (h.objs.size + 1) = some
      { cls := .ref C, data := .fields #[.ref h.objs.size, .none, .none, .none, .bool false, .none] } := by heap_get
  have hcC : (Value.ref C :: bm).contains (.ref C) = true := by simp
  unfold isInstance
  repeat (first | with_reducible refine wpAny_loadPart_at hget ?_ | (with_reducible refine wpAny_isSubtype_exc hC₁ ?_; rw [hcC]) | wp_step)
  show wpAny _ _ (typeLookup (.ref C) _) _ _ _
  refine look _ _ _ _ kp ?_
  refine wpAny_holding (wpAny_bind ?_)
  unfold bindSpecial
  refine wpAny_bind (wpAny_typeOf (T := "function") ⟨_, hfI₁, hfc⟩ ?_)
  rw [if_pos (by decide)]
  refine wpAny_pure (wpAny_bind (wpAny_mono (hq _ (h.objs.size + 1) ⟨fun b o hb => Heap.get?_push_of_some _ (Heap.get?_push_of_some _ hb), Heap.get?_none_of_le (Nat.le_succ _), h.objs.size, hget, Heap.get?_none_of_le (Nat.le_refl _), ?_⟩) (fun r s' hr => ?_) fun _ _ x => x))
  · exact Heap.get?_push_of_some _ (Heap.get?_push_at rfl rfl)
  · obtain ⟨rfl, hQ⟩ := hr
    wp_walk
    exact hQ
theorem ov_call (F : ExcBaseFacts B newId initId bmB) (hcB : (Value.ref C :: bm).contains (.type B) = true) (hcA : (Value.ref C :: bm).contains (.type "AttributeError") = false) (hcN : (Value.ref C :: bm).contains (.type "NameError") = false) {rest : List Value} {fI : Addr} {oI : Obj} {Q : Value → Shared → Prop}
    (hC : h.get? C = some (excClassObj nm q C N bs bm hdct sn sub ab col dd k0 k1 k2 k3 k5 newId)) (look : Looks (model prog w) h (typeLookup (.ref C) "__init__") (some (.ref fI)))
    (hfI : h.get? fI = some oI) (hfc : oI.cls = .type "function")
    (hq : ∀ h' e, Heap.MadeExcOf h h' e (.ref C) rest →
      wpAny (model prog w) (A.under (.builtin "type.__call__" ⟨.ref C :: rest, []⟩)) (call (.ref fI) (.ref e :: rest)) (fun r s' => r = .none ∧ Q (.ref e) s') E ⟨h', g, d, t, os⟩) (hrest : rest.length ≤ sizeLine := by size_fits) :
    wpAny (model prog w) A (call (.ref C) rest) Q E ⟨h, g, d, t, os⟩ := by
  have f1 := tc_lookup
  have f2 := tc_bind (.ref C)
  have hT : (⟨h, g, d, t, os⟩ : Shared).TypeIs (.ref C) "type" := ⟨_, hC, rfl⟩
  refine wpAny_call (codeAny_of_tree ?_)
  show wpAny _ _ (callAny (.ref C) _) _ _ _
  repeat (any_goals (first | assumption | with_reducible refine wpAny_loadPart_at hC ?_ | wp_step))
  refine ⟨rfl, ?_⟩
  refine codeAny_call_builtin_at (Code.quiet_builtin _ (by decide +kernel)) entry_typeCall (wpAny_check_type_call_sub hC (ov_type_call (hrest := hrest) F hcB hcA hcN hC look hfI hfc fun h' e hm => ?_))
  exact hq h' e hm
end
abbrev excO (tp : Addr) (d : Option Addr) : Obj := { cls := .ref 64, dict := d, data := .fields #[.ref tp, .none, .none, .none, .bool false, .none] }
section
variable {prog : Program} {w : World} {K : Frag} {A : Around} {R : Result → Shared → Prop} {s : Shared} {x C D : Addr}
theorem ov_refuse (self : Value) : refuseLoop self "__setattr__" (.ref C :: .ref D :: bmVE) = pure () := by
  rw [refuseLoop_ref, refuseLoop_ref]
  exact PySem.F.store_ValueError.passes self
open PySem.Builtin PySem.Builtin.ObjectAttr in
theorem ov_osa {ox : Obj} {name : Str} {tk : Tok} {v : Value} {cd : ClassData} (X : K.In s.heap) (I : InstAt s.heap x ox C none) (hc : clsIn K C = some cd) (hm : cd.mro = .ref C :: .ref D :: bmVE) (ha : findIn K (.ref C) name = some none)
    (h : ∀ b, wpAny (model prog w) A.in1 (storeInOwnDict (.ref x) (.ref C) (.str name tk) name v b)
      (fun fin s' => match fin with | .done f => R (.ok f) s' | .again c' => c'.quiet = true ∧ codeAny (model prog w) A c' R s') (fun e s' => R (.error e) s') s) :
    codeAny (model prog w) A (.call (.builtin "object.__setattr__") ⟨[.ref x, .str name tk, v], []⟩) R s := by
  have SF := PySem.F.store_object
  have sub : Looks (model prog w) s.heap (isInstance (.ref x) (.type "object")) true := I.type.andThen (looks_mroIn X (by unfold mroIn; rw [hc, Option.bind_some, hm]; rfl))
  refine codeAny_call_builtin SF.slot.plain SF.entry (@check_slot (model prog w) _ _ s "object.__setattr__" "object" "__setattr__" (.ref x) [.str name tk, v] [] _ SF.kind SF.split sub (SF.args (.ref x) (.str name tk) v) ?_)
  have hm' : Looks (model prog w) s.heap (mroOf (.ref C)) cd.mro := (looks_clsIn X hc).andThen .now
  rw [osa_eq, refuse_eq]
  refine wpAny_bind (wpAny_bind (I.type.here (wpAny_bind (hm'.here ?_))))
  rw [hm, ov_refuse]
  refine wpAny_pure (wpAny_bind (I.type.here (wpAny_bind ((looks_findIn X ha).here (wpAny_bind (Looks.now.here ?_))))))
  exact h _
end
section
variable {prog : Program} {w : World} {K : Frag} {A : Around} {E : Value → Shared → Prop} {s : Shared} {x C D L tp : Addr} {g : Heap} {m : Str → Option Value} {rest : List (Addr × Obj)}
theorem fr_but {g h h' : Heap} {L x : Addr} {m : Str → Option Value} (F : Fr g L h m) (hx : L ≠ x) (hg : g.get? x = none) (k : ∀ b o, b ≠ x → h.get? b = some o → h'.get? b = some o) : Fr g L h' m := by
  obtain ⟨⟨oL, es, ep, e1, e2⟩, kp, ab⟩ := F
  refine ⟨⟨oL, es, ep, k _ _ hx e1, e2⟩, fun b o e => k b o (fun z => ?_) (kp b o e), ab⟩
  rw [z, hg] at e
  cases e
open PySem.Builtin PySem.Builtin.ObjectAttr in
theorem exc_set {name : Str} {v : Value} {cd : ClassData} {Q : Unit → Shared → Prop} (F : Fr g L s.heap m) (N : News g L s.heap ((x, { cls := .ref C, dict := none, data := .fields #[.ref tp, .none, .none, .none, .bool false, .none] }) :: rest)) (hoff : ∀ p ∈ rest, p.1 ≠ x) (X : K.In s.heap)
    (hs : findIn K (.ref C) "__setattr__" = some (some (.builtin "object.__setattr__"))) (hc : clsIn K C = some cd) (hm : cd.mro = .ref C :: .ref D :: bmVE) (hd : cd.hasDict = true) (ha : findIn K (.ref C) name = some none)
    (h : ∀ h' tk' d, Fr g L h' m → News g L h' ((x, { cls := .ref C, dict := some d, data := .fields #[.ref tp, .none, .none, .none, .bool false, .none] }) :: rest) → Q () { s with heap := h', toks := tk' }) :
    wpAny (model prog w) A (setAttr (.ref x) name v) Q E s := by
  obtain ⟨hx, hxL, hxg⟩ := N _ (.head _)
  obtain ⟨c0, dd0, sl0, hC⟩ : ∃ c0 dd0 sl0, s.heap.get? C = some { cls := c0, dict := dd0, data := .cls cd, slots := sl0 } := by
    unfold clsIn at hc
    split at hc
    · rename_i c0 dd0 cd0 sl0 ho
      cases hc
      exact ⟨c0, dd0, sl0, X _ _ ho⟩
    · cases hc
  refine set_plain X (ox := { cls := .ref C, dict := none, data := .fields #[.ref tp, .none, .none, .none, .bool false, .none] }) (od := none) ⟨hx, rfl, rfl, trivial⟩ hs ?_
  refine ov_osa (s := { s with toks := s.toks + 1 }) X ⟨hx, rfl, rfl, trivial⟩ hc hm ha fun b => ?_
  obtain ⟨hp, gn, dr, tk, os⟩ := s
  unfold storeInOwnDict ownDictForStores instanceDict
  refine wpAny_bind (wpAny_pure ?_)
  repeat (first | with_reducible refine wpAny_loadPart_at hx ?_ | with_reducible refine wpAny_load hC ?_ | wp_step)
  have hxs : x ≠ hp.objs.size := Nat.ne_of_lt (Heap.lt_size hx)
  have hx₁ : (hp.push { cls := .type "dict", data := .dict #[] }).get? x = some { cls := .ref C, dict := none, data := .fields #[.ref tp, .none, .none, .none, .bool false, .none] } := Heap.get?_push_of_some _ hx
  have D : ((hp.push { cls := .type "dict", data := .dict #[] }).update x fun o => { cls := o.cls, dict := some hp.objs.size, data := o.data, slots := o.slots }).get? hp.objs.size = some { cls := .type "dict", data := .dict #[] } :=
    (Heap.get?_update_ne _ _ _ _ hxs.symm).trans (Heap.get?_push_at rfl rfl)
  have X1 : ((hp.push { cls := .type "dict", data := .dict #[] }).update x fun o => { cls := o.cls, dict := some hp.objs.size, data := o.data, slots := o.slots }).get? x = some { cls := .ref C, dict := some hp.objs.size, data := .fields #[.ref tp, .none, .none, .none, .bool false, .none] } :=
    Heap.get?_update_self _ hx₁ rfl
  have O : ∀ b o, b ≠ x → hp.get? b = some o → ((hp.push { cls := .type "dict", data := .dict #[] }).update x fun o => { cls := o.cls, dict := some hp.objs.size, data := o.data, slots := o.slots }).get? b = some o := fun b o hb e =>
    (Heap.get?_update_ne _ _ _ _ hb).trans (Heap.get?_push_of_some _ e)
  dsimp only at *
  generalize ((hp.push { cls := .type "dict", data := .dict #[] }).update x fun o => { cls := o.cls, dict := some hp.objs.size, data := o.data, slots := o.slots }) = h1 at D X1 O ⊢
  refine wpAny_askSetting ?_
  refine wpAny_pure (wpAny_bind (wpAny_mkText (wpAny_bind (wpAny_loadPart D ?_))))
  dsimp only
  have hn : aRefKeyMayBeTheName name #[] = false := by rw [aRefKeyMayBeTheName_at]; simp
  rw [hn, if_neg (by decide)]
  refine wpAny_updatePart D ?_
  refine wpAny_bind (wpAny_lookBehind (Heap.get?_update_self _ D rfl) rfl ?_)
  have O2 : ∀ b o, b ≠ x → hp.get? b = some o → (h1.update hp.objs.size (Obj.putName name (if name.cps.isEmpty = true then 0 else reduceHash (w.params.strHash name.cps)) (Value.str name (tk + 1)) v)).get? b = some o := fun b o hb e =>
    (Heap.get?_update_ne _ _ _ _ (Nat.ne_of_lt (Heap.lt_size e))).trans (O b o hb e)
  have X2 : (h1.update hp.objs.size (Obj.putName name (if name.cps.isEmpty = true then 0 else reduceHash (w.params.strHash name.cps)) (Value.str name (tk + 1)) v)).get? x = some { cls := .ref C, dict := some hp.objs.size, data := .fields #[.ref tp, .none, .none, .none, .bool false, .none] } :=
    (Heap.get?_update_ne _ _ _ _ hxs).trans X1
  refine wpAny_pure ?_
  refine h _ _ hp.objs.size (fr_but F (fun z => hxL z.symm) hxg O2) fun p hp' => ?_
  rcases List.mem_cons.mp hp' with rfl | hp'
  · exact ⟨X2, hxL, hxg⟩
  · exact ⟨O2 _ _ (hoff p hp') (N p (.tail _ hp')).1, (N p (.tail _ hp')).2⟩
end

section
variable {M : Model} {A : Around} {E : Value → Shared → Prop} {env : Env}
variable {nm q : Str} {C N : Addr} {bs bm : List Value} {hdct : Bool} {sn : List Str} {sub : List Value} {ab : Bool} {col : Option Bool} {dd : Option Addr} {k0 k1 k2 k3 k5 : Option Value} {newId : String}
theorem ov_raise {hp₁ : Heap} {gn₁ : Array GenState} {dr₁ : Drawn} {tk₁ : Nat} {os₁ : OsState} {x : Sem Value} {Q : Flow → Shared → Prop} (hbase : bm.contains (.type "BaseException") = true) (hh : A.handled = none)
    (h : wpAny M A x (fun v s₁ => ∃ e tp d, v = .ref e ∧ s₁.heap.get? C = some (excClassObj nm q C N bs bm hdct sn sub ab col dd k0 k1 k2 k3 k5 newId) ∧
      s₁.heap.get? e = some { cls := .ref C, dict := d, data := .fields #[.ref tp, .none, .none, .none, .bool false, .none] } ∧ E (.ref e) s₁) E (.mk hp₁ gn₁ dr₁ tk₁ os₁)) :
    wpAny M A (raiseStmt env (some x) none) Q E (.mk hp₁ gn₁ dr₁ tk₁ os₁) := by
  have hcB : (Value.ref C :: bm).contains (.type "BaseException") = true := by rw [List.contains_cons, hbase, Bool.or_true]
  unfold raiseStmt
  refine wpAny_bind (wpAny_mono h (fun v s₁ h₁ => ?_) fun _ _ x => x)
  obtain ⟨e, tp, ed, rfl, hC, he, hE⟩ := h₁
  obtain ⟨hp, g, d, tk, os⟩ := s₁
  repeat (first | with_reducible refine wpAny_loadPart_at he ?_ | with_reducible refine wpAny_loadPart_at hC ?_ | (with_reducible refine wpAny_isSubtype_exc hC ?_; rw [hcB]) | wp_step)
  exact wpAny_raiseNew_none hh hE
end
section
variable {M : Model} {A : Around} {E : Value → Shared → Prop} {s' : Shared} {base g : Heap} {outer : List Env} {L a e tp : Addr} {m : Str → Option Value} {name : Str} {scope : Scope} {cd : Value} {Q : Unit → Shared → Prop} {news : List (Addr × Obj)}
theorem leave_led {cls : Value} {d : Option Addr} (K : Below A base outer g) (F : Fr g L s'.heap m) (N : News g L s'.heap ((e, { cls := cls, dict := d, data := .fields #[.ref tp, .none, .none, .none, .bool false, .none] }) :: news)) (hn : ∀ q ∈ news, q.1 ≠ e)
    (hQ : ∀ h', RaisedSN base g outer e cls news h' → g.UpToSlots h' → Q () { s' with heap := h' }) (hk : scope.kind = .function := by rfl) :
    wpAny M (A.deeper (envOf name scope L a cd)) (leaving (envOf name scope L a cd) (.ref e)) Q E s' := by
  have K' := K.push (name := name) (a := a) (cd := cd) F hk
  obtain ⟨he, heL, heg⟩ := N _ (.head _)
  have heF : e ∉ (envOf name scope L a cd :: outer).filterMap (·.frame) := fun hm => by
    obtain ⟨hb, o, ho, hd⟩ := K'.frames.mem hm
    rw [he] at ho
    cases ho
    exact hd _ rfl
  have hin : ∀ env ∈ (envOf name scope L a cd :: outer), ∀ b, env.frame = some b → b ∈ (e :: (envOf name scope L a cd :: outer).filterMap (·.frame)) := fun env he b hb => .tail _ (List.mem_filterMap.mpr ⟨env, he, hb⟩)
  have st : base.StaysIn (hideAll s'.heap (e :: (envOf name scope L a cd :: outer).filterMap (·.frame))) := fun b o q => hideAll_get _ (K'.stays b o q) fun hm => by
    rcases List.mem_cons.mp hm with rfl | hm
    · have := K.stays _ _ q
      rw [heg] at this; cases this
    · rw [(K'.frames.mem hm).1] at q; cases q
  have sg : ∀ b o, g.get? b = some o → b ∉ outer.filterMap (·.frame) → (hideAll s'.heap (e :: (envOf name scope L a cd :: outer).filterMap (·.frame))).get? b = some o := fun b o q nm => hideAll_get _ (F.keep b o q) fun hm => by
    rcases List.mem_cons.mp hm with rfl | hm
    · rw [heg] at q; cases q
    · rcases kts_mem hm with z | z
      · rw [z, kts_self F] at q
        cases q
      · exact nm z
  have hl : ∀ q ∈ news, (hideAll s'.heap (e :: (envOf name scope L a cd :: outer).filterMap (·.frame))).get? q.1 = some q.2 ∧ g.get? q.1 = none ∧ base.get? q.1 = none := fun q hq => by
    refine ⟨hideAll_get _ (N q (.tail _ hq)).1 fun hm => ?_, (N q (.tail _ hq)).2.2, fresh_of_stays K.stays (N q (.tail _ hq)).2.2⟩
    rcases List.mem_cons.mp hm with z | hm
    · exact hn q hq z
    obtain ⟨env, he, hf⟩ := List.mem_filterMap.mp hm
    rcases List.mem_cons.mp he with rfl | he
    · exact (N q (.tail _ hq)).2.1 (Option.some.inj hf).symm
    · obtain ⟨o, ho, _⟩ := (K.frames.mem (List.mem_filterMap.mpr ⟨env, he, hf⟩)).2
      rw [(N q (.tail _ hq)).2.2] at ho; cases ho
  have hen : (hideAll s'.heap (e :: (envOf name scope L a cd :: outer).filterMap (·.frame))).get? e = none := hideAll_none _ (.head _)
  refine wpAny_leaving_firstW (a0 := .ref tp) K'.stack (funFrames_hide K'.frames hin) rfl he (fun b o hb => of_hideAll _ hb) hen rfl rfl rfl fun h' hL => ?_
  obtain ⟨k1, ⟨_, _, k2⟩, k3, k4⟩ := hL
  exact hQ h' ⟨_, .ref tp, st, sg, hl, k1, hen, k2, k3⟩ ((Heap.UpToSlots.of_keeps F.keep).trans k4)
end
theorem RaisedSN.shrink {base G : Heap} {l : List Env} {e : Addr} {cls : Value} {news news' : List (Addr × Obj)} {h : Heap} (R : RaisedSN base G l e cls news h) (k : ∀ q ∈ news', q ∈ news) : RaisedSN base G l e cls news' h := by
  obtain ⟨B, a0, hB, hG, hl, hfl⟩ := R
  exact ⟨B, a0, hB, hG, fun q hq => hl q (k q hq), hfl⟩
theorem ov_oI (P : Params) : typeIn (hd.heap_1 P) (.ref 36) = some (.type "function") := by kernel_rfl
theorem ov_oI' (P : Params) : ∃ o, (hd.heap_1 P).lookup 36 = some o ∧ o.cls = .type "function" := Option.map_eq_some_iff.mp (ov_oI P)
theorem exc_set64 {prog : Program} {w : World} {A : Around} {E : Value → Shared → Prop} {hp₁ : Heap} {gn₁ : Array GenState} {dr₁ : Drawn} {tk₁ : Nat} {os₁ : OsState} {x L tp : Addr} {g : Heap} {m : Str → Option Value} {rest : List (Addr × Obj)} {name : Str} {v : Value} {Q : Unit → Shared → Prop}
    (F : Fr g L hp₁ m) (N : News g L hp₁ ((x, excO tp none) :: rest)) (hoff : ∀ p ∈ rest, p.1 ≠ x) (X : (hd.heap_1 w.params).In g) (ha : findIn (hd.heap_1 w.params) (.ref 64) name = some none)
    (h : ∀ h' tk' d, Fr g L h' m → News g L h' ((x, excO tp (some d)) :: rest) → Q () (.mk h' gn₁ dr₁ tk' os₁)) :
    wpAny (model prog w) A (setAttr (.ref x) name v) Q E (.mk hp₁ gn₁ dr₁ tk₁ os₁) := by
  obtain ⟨cd, hc, hm, hd⟩ := ov_cd (ov64 w.params)
  exact exc_set F N hoff (X.keeps F.keep) (ov64_set _) hc hm hd ha h
theorem mkOver {w : World} {v : Value} {led : List (Addr × Obj)} {p : Program} {loose : List Str} {mean : ExcName → Option Value} {mg mb : Str → Option Value} {dp un : Nat} {gd : Option (List Code)} {cn : Str} {cs : Scope} {ad : Addr} {ccd : Value} {cl : List (Str × Addr)} {outer : List Env} {A₀ : Around} {base h₀ : Heap} {L : Addr} {m : Str → Option Value} {s : Shared}
    {Q E : Value → Shared → Prop} (B : Below A₀ base outer h₀) (F : Fr h₀ L s.heap m) (X : (hd.heap_1 w.params).In h₀) (N : News h₀ L s.heap led) (T : Top p loose mean mg mb h₀) (hk : cs.kind = .function)
    (hd : dp + 6 < recursionLimit) (hu : un + 60 < cLine)
    (ret : ∀ (e tp d : Addr) h' tk', Fr h₀ L h' m → News h₀ L h' ((e, excO tp (some d)) :: led) → (∀ p ∈ led, p.1 ≠ e) → Q (.ref e) { s with heap := h', toks := tk' }) :
    wpAny (model prog w) (ktrTop dp un gd cn cs L ad ccd cl outer) (call (.ref 64) [v]) Q E s := by
  w_on
  obtain ⟨nm, qn, Nn, bs, hdct, sn, sub, ab, col, dd, k0, k1, k2, k3, k5, hC⟩ := ov_cls (X.keeps F.keep) (ov64 w.params)
  obtain ⟨oI, hoI, hoc⟩ := ov_oI' w.params
  obtain ⟨h, g, d, t, os⟩ := s
  refine ov_call PySem.F.excBase_ValueError (by decide) (by decide) (by decide) hC (looks_findIn (X.keeps F.keep) (ov64_init _)) (X.keeps F.keep _ _ hoI) hoc fun h' e hm => ?_
  have F1 : Fr h₀ L h' m := F.keeps hm.keeps
  obtain ⟨tp, he, -, -⟩ := hm.there
  have hen : h₀.get? e = none := by
    cases q : h₀.get? e with
    | none => rfl
    | some o =>
      have := F.keep _ _ q
      rw [hm.new] at this
      cases this
  have N1 : News h₀ L h' ((e, excO tp none) :: led) := News.more F1 (fun q hq => ⟨hm.keeps _ _ (N q hq).1, (N q hq).2⟩) he (fun es n z => by cases z) hen
  have off : ∀ p ∈ led, p.1 ≠ e := fun p hp z => by
    have := (N p hp).1
    rw [z, hm.new] at this
    cases this
  clear N hm he hen hC
  refine wpAny_call ?_
  k_dflt ktr_enter
  repeat' (first
    | (k_unfold; (try dsimp only))
    | (k_end; wrow_close)
    | ((with_reducible show wpAny _ _ (call _ _) _ _ _); (try k_fold); with_reducible ((k_here; (with_reducible show wpAny _ _ (call (Value.ref 64) [_]) _ _ _); k_dflt (refine' mkOver ?k1_16_2 ?k2_16_2 ?k3_16_2 ?k4_16_2 ?k5_16_2 ?kK_16_2 ?kd_16_2 ?ku_16_2 ?_; (case k1_16_2 => k_asm); (case k2_16_2 => k_asm); (case k3_16_2 => k_asm); (case k4_16_2 => k_asm); (case k5_16_2 => k_asm); (case kK_16_2 => first | exact rfl | assumption); (case kd_16_2 => k_room); (case ku_16_2 => k_units); k_whole); intro e' tp' d' h' tk' F' N' o9'; (try k_sweep))))
    | ((with_reducible show wpAny _ _ (exec (Stmt.Raise _ _ _) _) _ _ _); with_reducible ((k_here; (with_reducible rename Fr _ _ _ _ => lF9); k_dflt (refine' exec_raise64 ?X_16_1 ?k_16_1 ?hh_16_1 ?_; (case X_16_1 => k_asm); (case k_16_1 => exact lF9.keep); (case hh_16_1 => exact rfl); k_whole))))
    | ((with_reducible show wpAny _ _ (setAttr _ _ _) _ _ _); (try k_fold); with_reducible ((k_here; k_dflt (refine' exc_set64 ?F_16_0 ?N_16_0 ?off_16_0 ?X_16_0 ?ha_16_0 ?_; (case F_16_0 => k_asm); (case N_16_0 => with_reducible assumption); (case off_16_0 => with_reducible assumption); (case X_16_0 => k_asm); (case ha_16_0 => exact ov64_reason _); k_whole); intro h' tk' d' F' N'; (try k_sweep))))
    | ((with_reducible show wpAny _ _ (eval (Expr.Name _ _) _) _ _ _); with_reducible (k_dflt (first | ((with_reducible show wpAny _ _ (eval (Expr.Name _ _) (envOf _ _ _ _ _)) _ _ _); first | (refine' ld ?k1_08_2 ?k2_08_2 ?_ (hk := rfl) (hl := ?kl_08_2) (hd := ?kd_08_2); (case kl_08_2 => kernel_rfl); (case k1_08_2 => with_reducible assumption); (case k2_08_2 => exact rfl); (case kd_08_2 => decide +kernel)) | (refine' name_K ?kF_08_2 ?k1_08_2 ?k2_08_2 ?k3_08_2 ?_ (hk := rfl) (hx := ?kl_08_2) (hd := ?kd_08_2); (case kF_08_2 => with_reducible assumption); (case k1_08_2 => with_reducible assumption); (case k2_08_2 => k_asm); (case k3_08_2 => k_is); (case kl_08_2 => kernel_rfl); (case kd_08_2 => decide +kernel); k_whole)))))
    | ((with_reducible show ite _ _ _); with_reducible ((k_closed; k_dflt (first | refine ite_pos (by decide) ?_ | refine ite_neg (by decide) ?_))))
    | walk1
    | (dsimp only; walk1)
    | (leave1; walk_say "STEP leave1"; try dsimp only)
    | fail "no step")
  all_goals exact ret _ _ _ _ _ (by k_asm) (by k_asm) off
/-- what a raise statement leaves -/
def RaisePost (g : Heap) (E : Value → Shared → Prop) (v : Value) (s₁ : Shared) : Prop := ∃ e tp d, v = .ref e ∧ (∀ b o, g.get? b = some o → s₁.heap.get? b = some o) ∧ s₁.heap.get? e = some (excO tp (some d)) ∧ E (.ref e) s₁
theorem exec_raise64 {w : World} {A : Around} {E : Value → Shared → Prop} {hp₁ : Heap} {gn₁ : Array GenState} {dr₁ : Drawn} {tk₁ : Nat} {os₁ : OsState} {env : Env} {x : PySem.Expr} {pos : Pos} {Q : Flow → Shared → Prop} {g : Heap} (X : (hd.heap_1 w.params).In g) (k : ∀ b o, g.get? b = some o → hp₁.get? b = some o) (hh : A.handled = none)
    (h : wpAny (model prog w) A (eval x env) (RaisePost g E) E (.mk hp₁ gn₁ dr₁ tk₁ os₁)) :
    wpAny (model prog w) A (exec (.Raise (some x) none pos) env) Q E (.mk hp₁ gn₁ dr₁ tk₁ os₁) := by
  obtain ⟨nm, qn, Nn, bs, hdct, sn, sub, ab, col, dd, k0, k1, k2, k3, k5, hC⟩ := ov_cls X (ov64 w.params)
  rw [arm_exec_Raise]
  refine wpAny_bind (wpAny_standAt (ov_raise (bm := .ref 39 :: bmVE) (C := 64) (nm := nm) (q := qn) (N := Nn) (bs := bs) (hdct := hdct) (sn := sn) (sub := sub) (ab := ab) (col := col) (dd := dd) (k0 := k0) (k1 := k1) (k2 := k2) (k3 := k3) (k5 := k5) (newId := "ValueError.__new__") (by decide) hh (wpAny_bind (wpAny_mono h (fun v s₃ h₃ => wpAny_bind (wpAny_standAt (wpAny_pure ?_))) fun _ _ x => x))))
  obtain ⟨e, tp, d, rfl, kp, he, hE⟩ := h₃
  exact ⟨e, tp, some d, rfl, kp _ _ hC, he, hE⟩
/-- a call that gives back or raises Overflow: then the ledger stays as it was -/
def SayX (w : World) (f : Addr) (args : List Value) (led : List (Addr × Obj)) (dD dU : Nat) (Out : Value → List (Addr × Obj) → Prop) (Err : Prop) : Prop :=
  ∀ (p : Program) (loose : List Str) (mean : ExcName → Option Value) (mg mb : Str → Option Value) (dp un : Nat) (gd : Option (List Code)) (cn : Str) (cs : Scope) (a : Addr) (ccd : Value) (cl : List (Str × Addr)) (outer : List Env) (A₀ : Around) (base h₀ : Heap) (L : Addr) (m : Str → Option Value) (s : Shared)
    (Q E : Value → Shared → Prop),
    Below A₀ base outer h₀ → Fr h₀ L s.heap m → (hd.heap_1 w.params).In h₀ → News h₀ L s.heap led → Top p loose mean mg mb h₀ → cs.kind = .function → dp + dD < recursionLimit → un + dU < cLine →
    (∀ v led' h' tk', Fr h₀ L h' m → News h₀ L h' led' → Out v led' → Q v { s with heap := h', toks := tk' }) →
    (∀ g₂ e h' tk', Err → Fr h₀ L g₂ m → RaisedSN base g₂ (envX cn cs L a ccd cl :: outer) e (.ref 64) led h' → g₂.UpToSlots h' → E (.ref e) { s with heap := h', toks := tk' }) →
    wpAny (model prog w) (ktrTop dp un gd cn cs L a ccd cl outer) (call (.ref f) args) Q E s
theorem sayX_in {w : World} {f : Addr} {args : List Value} {led : List (Addr × Obj)} {dD dU : Nat} {Out : Value → List (Addr × Obj) → Prop} {Err : Prop}
    (h : ∀ (p : Program) (loose : List Str) (mean : ExcName → Option Value) (mg mb : Str → Option Value) (dp un : Nat) (gd : Option (List Code)) (cn : Str) (cs : Scope) (a : Addr) (ccd : Value) (cl : List (Str × Addr)) (outer : List Env) (A₀ : Around) (base h₀ : Heap) (L : Addr) (m : Str → Option Value) hp₀ gn₀ dr₀ tk₀ os₀
      (Q E : Value → Shared → Prop),
      Below A₀ base outer h₀ → Fr h₀ L hp₀ m → (hd.heap_1 w.params).In h₀ → News h₀ L hp₀ led → Top p loose mean mg mb h₀ → cs.kind = .function → dp + dD < recursionLimit → un + dU < cLine →
      (∀ v led' h' tk', Fr h₀ L h' m → News h₀ L h' led' → Out v led' → Q v (.mk h' gn₀ dr₀ tk' os₀)) →
      (∀ g₂ e h' tk', Err → Fr h₀ L g₂ m → RaisedSN base g₂ (envX cn cs L a ccd cl :: outer) e (.ref 64) led h' → g₂.UpToSlots h' → E (.ref e) (.mk h' gn₀ dr₀ tk' os₀)) →
      wpAny (model prog w) (ktrTop dp un gd cn cs L a ccd cl outer) (call (.ref f) args) Q E (.mk hp₀ gn₀ dr₀ tk₀ os₀)) : SayX w f args led dD dU Out Err :=
  fun p loose mean mg mb dp un gd cn cs a ccd cl outer A₀ base h₀ L m s Q E B F X N T hk hd hu hret herr => h p loose mean mg mb dp un gd cn cs a ccd cl outer A₀ base h₀ L m s.heap s.gens s.drawn s.toks s.os Q E B F X N T hk hd hu hret herr
set_option maxHeartbeats 8000000 in
theorem dimenX (w : World) (v : Int) (t : Tok) (led : List (Addr × Obj)) : SayX w 110 [.int v t] led 9 90 (fun r led' => r = .int v t ∧ led' = led ∧ -1073741823 ≤ v ∧ v ≤ 1073741823) (¬ (-1073741823 ≤ v ∧ v ≤ 1073741823)) := by
  refine sayX_in ?_
  intro p loose mean mg mb dp un gd cn cs a ccd cl outer A₀ base h₀ L m hp₀ gn₀ dr₀ tk₀ os₀ Q E B F X N T hk hd hu hret herr
  w_on
  refine wpAny_call ?_
  k_dflt ktr_enter
  repeat' (first
    | (k_unfold; (try dsimp only))
    | (k_end; wrow_close)
    | ((with_reducible show wpAny _ _ (call _ _) _ _ _); (try k_fold); with_reducible ((k_here; (with_reducible show wpAny _ _ (call (Value.ref 64) [_]) _ _ _); k_dflt (refine' mkOver ?k1_16_2 ?k2_16_2 ?k3_16_2 ?k4_16_2 ?k5_16_2 ?kK_16_2 ?kd_16_2 ?ku_16_2 ?_; (case k1_16_2 => k_asm); (case k2_16_2 => k_asm); (case k3_16_2 => k_asm); (case k4_16_2 => k_asm); (case k5_16_2 => k_asm); (case kK_16_2 => first | exact rfl | assumption); (case kd_16_2 => k_room); (case ku_16_2 => k_units); k_whole); intro e' tp' d' h' tk' F' N' o9'; (try k_sweep))))
    | ((with_reducible show wpAny _ _ (exec (Stmt.Raise _ _ _) _) _ _ _); with_reducible ((k_here; (with_reducible rename Fr _ _ _ _ => lF9); k_dflt (refine' exec_raise64 ?X_16_1 ?k_16_1 ?hh_16_1 ?_; (case X_16_1 => k_asm); (case k_16_1 => exact lF9.keep); (case hh_16_1 => exact rfl); k_whole))))
    | ((with_reducible show wpAny _ _ (setAttr _ _ _) _ _ _); (try k_fold); with_reducible ((k_here; k_dflt (refine' exc_set64 ?F_16_0 ?N_16_0 ?off_16_0 ?X_16_0 ?ha_16_0 ?_; (case F_16_0 => k_asm); (case N_16_0 => with_reducible assumption); (case off_16_0 => with_reducible assumption); (case X_16_0 => k_asm); (case ha_16_0 => exact ov64_reason _); k_whole); intro h' tk' d' F' N'; (try k_sweep))))
    | ((with_reducible show wpAny _ _ (eval (Expr.Name _ _) _) _ _ _); with_reducible (k_dflt (first | ((with_reducible show wpAny _ _ (eval (Expr.Name _ _) (envOf _ _ _ _ _)) _ _ _); first | (refine' ld ?k1_08_2 ?k2_08_2 ?_ (hk := rfl) (hl := ?kl_08_2) (hd := ?kd_08_2); (case kl_08_2 => kernel_rfl); (case k1_08_2 => with_reducible assumption); (case k2_08_2 => exact rfl); (case kd_08_2 => decide +kernel)) | (refine' name_K ?kF_08_2 ?k1_08_2 ?k2_08_2 ?k3_08_2 ?_ (hk := rfl) (hx := ?kl_08_2) (hd := ?kd_08_2); (case kF_08_2 => with_reducible assumption); (case k1_08_2 => with_reducible assumption); (case k2_08_2 => k_asm); (case k3_08_2 => k_is); (case kl_08_2 => kernel_rfl); (case kd_08_2 => decide +kernel); k_whole)))))
    | ((with_reducible show ite _ _ _); with_reducible ((k_closed; k_dflt (first | refine ite_pos (by decide) ?_ | refine ite_neg (by decide) ?_))))
    | walk1
    | (dsimp only; walk1)
    | (leave1; walk_say "STEP leave1"; try dsimp only)
    | fail "no step")
  all_goals first
    | exact hret _ _ _ _ (by k_asm) (by k_asm) ⟨rfl, rfl, by omega, by omega⟩
    | (with_reducible rename Fr h₀ L _ _ => lG9; with_reducible rename Fr _ _ _ _ => lF9; with_reducible rename News _ _ _ _ => lN9
       refine ⟨_, _, _, rfl, lF9.keep, lN9.get (.head _), ?_⟩
       exact leave_led (by k_asm) lF9 lN9 (by assumption) (fun h' R hs => herr _ _ _ _ (by omega) (by k_asm) R hs))
theorem dimenX_use {w : World} {v : Int} {t : Tok} {led : List (Addr × Obj)} {p : Program} {loose : List Str} {mean : ExcName → Option Value} {mg mb : Str → Option Value} {dp un : Nat} {gd : Option (List Code)} {cn : Str} {cs : Scope} {ad : Addr} {ccd : Value} {cl : List (Str × Addr)} {outer : List Env} {A₀ : Around} {base h₀ : Heap} {L : Addr} {m : Str → Option Value} {hp₁ : Heap} {gn₁ : Array GenState} {dr₁ : Drawn} {tk₁ : Nat} {os₁ : OsState}
    {Q E : Value → Shared → Prop} (B : Below A₀ base outer h₀) (F : Fr h₀ L hp₁ m) (X : (hd.heap_1 w.params).In h₀) (N : News h₀ L hp₁ led) (T : Top p loose mean mg mb h₀) (hk : cs.kind = .function)
    (hd : dp + 9 < recursionLimit) (hu : un + 90 < cLine)
    (ret : ∀ h' tk', -1073741823 ≤ v → v ≤ 1073741823 → Fr h₀ L h' m → News h₀ L h' led → Q (.int v t) (.mk h' gn₁ dr₁ tk' os₁))
    (err : ∀ g₂ e h' tk', ¬ (-1073741823 ≤ v ∧ v ≤ 1073741823) → Fr h₀ L g₂ m → RaisedSN base g₂ (envX cn cs L ad ccd cl :: outer) e (.ref 64) led h' → g₂.UpToSlots h' → E (.ref e) (.mk h' gn₁ dr₁ tk' os₁)) :
    wpAny (model prog w) (ktrTop dp un gd cn cs L ad ccd cl outer) (call (.ref 110) [.int v t]) Q E (.mk hp₁ gn₁ dr₁ tk₁ os₁) := by
  refine dimenX w v t led p loose mean mg mb dp un gd cn cs ad ccd cl outer A₀ base h₀ L m (.mk hp₁ gn₁ dr₁ tk₁ os₁) Q E B F X N T hk hd hu ?_ err
  rintro v led' h' tk' F' N' ⟨rfl, rfl, h1, h2⟩
  exact ret h' tk' h1 h2 F' N'
set_option maxHeartbeats 8000000 in
theorem mkBoxX {w : World} {k wd h d : Int} {t1 t2 t3 t4 : Tok} {it : Addr} {led : List (Addr × Obj)} {p : Program} {loose : List Str} {mean : ExcName → Option Value} {mg mb : Str → Option Value} {dp un : Nat} {gd : Option (List Code)} {cn : Str} {cs : Scope} {ad : Addr} {ccd : Value} {cl : List (Str × Addr)} {outer : List Env} {A₀ : Around} {base h₀ : Heap} {L : Addr} {m : Str → Option Value} {hp₁ : Heap} {gn₁ : Array GenState} {dr₁ : Drawn} {tk₁ : Nat} {os₁ : OsState}
    {Q E : Value → Shared → Prop} (B : Below A₀ base outer h₀) (F : Fr h₀ L hp₁ m) (X : (hd.heap_1 w.params).In h₀) (N : News h₀ L hp₁ led) (T : Top p loose mean mg mb h₀) (hk : cs.kind = .function)
    (hd : dp + 12 < recursionLimit) (hu : un + 120 < cLine)
    (hk1 : 2 ≤ k) (hk2 : k ≤ 3)
    (ret : ∀ (x dx : Addr) (r : Addr) (b1 b2 b3 b4 b5 : Tok) (a0 a1 a2 a3 a4 a5 a6 a7 a8 : Tok) h' tk', -1073741823 ≤ h → h ≤ 1073741823 → -1073741823 ≤ d → d ≤ 1073741823 → Fr h₀ L h' m → News h₀ L h' ((r, tupO [.int 0 b4, .int 1 b5]) :: (x, instObj 342 dx) :: (dx, boxO w.params a0 a1 a2 a3 a4 a5 a6 a7 a8 (.int k t1) (.int wd t2) (.int h t3) (.int d t4) it (.int 0 b1) (.int 0 b2) (.int 0 b3) r) :: led) → (∀ p ∈ led, p.1 < dx) → @LT.lt Nat _ dx x → (∀ p ∈ led, p.1 < x) → @LT.lt Nat _ dx r → @LT.lt Nat _ x r → (∀ p ∈ led, p.1 < r) → Q (.ref x) (.mk h' gn₁ dr₁ tk' os₁))
    (err : ∀ g₂ e h' tk', Fr h₀ L g₂ m → RaisedSN base g₂ (envX cn cs L ad ccd cl :: outer) e (.ref 64) led h' → g₂.UpToSlots h' → E (.ref e) (.mk h' gn₁ dr₁ tk' os₁)) :
    wpAny (model prog w) (ktrTop dp un gd cn cs L ad ccd cl outer) (call (.ref 342) [.int k t1, .int wd t2, .int h t3, .int d t4, .ref it]) Q E (.mk hp₁ gn₁ dr₁ tk₁ os₁) := by
  w_on
  k_dflt (refine' call_cls ?k1 ?k2 ?k3 ?k4 ?k5 ?k6 ?_; (case k1 => k_asm); (case k2 => k_asm); (case k3 => k_asm); (case k4 => k_is); (case k5 => k_is); (case k6 => k_is); k_whole; intro x' d' h' F' N' l1 l2; (have l1A := l1); (have l2A : @LT.lt Nat _ d' x' := l2); (try k_lt l1); (try k_lt2 l2); (try k_sweep); ktr_enter)
  repeat' (first
    | (k_unfold; (try dsimp only))
    | (k_end; wrow_close)
    | ((with_reducible show wpAny _ _ (call _ _) _ _ _); (try k_fold); first
      | with_reducible ((k_here; (with_reducible show wpAny _ _ (call (Value.ref 110) [Value.int _ _]) _ _ _); first | (k_dflt (refine' sayP_use (dimen_ _ _ _ ?h1_17_0 ?h2_17_0) ?k1_17_0 ?k2_17_0 ?k3_17_0 ?k4_17_0 ?k5_17_0 ?kK_17_0 ?kd_17_0 ?ku_17_0 ?_; (case h1_17_0 => first | assumption | omega); (case h2_17_0 => first | assumption | omega); (case k1_17_0 => k_asm); (case k2_17_0 => k_asm); (case k3_17_0 => k_asm); (case k4_17_0 => k_asm); (case k5_17_0 => k_asm); (case kK_17_0 => first | exact rfl | assumption); (case kd_17_0 => k_room); (case ku_17_0 => k_units); k_whole); intro v' h' tk' e' F' N'; subst e'; (try k_sweep)) | focus (k_dflt (refine' dimenX_use ?k1_17_0 ?k2_17_0 ?k3_17_0 ?k4_17_0 ?k5_17_0 ?kK_17_0 ?kd_17_0 ?ku_17_0 ?_ ?_; (case k1_17_0 => k_asm); (case k2_17_0 => k_asm); (case k3_17_0 => k_asm); (case k4_17_0 => k_asm); (case k5_17_0 => k_asm); (case kK_17_0 => first | exact rfl | assumption); (case kd_17_0 => k_room); (case ku_17_0 => k_units)); (intro h' tk' b1' b2' F' N'; (try k_sweep)); rotate_left; (intro g9' e9' h9' tk9' hz9' FG9' R9' hs9'); rotate_right)))
      | with_reducible ((k_here; (with_reducible show wpAny _ _ (call (Value.ref 89) [Value.int _ _, Value.int _ _, Value.int _ _]) _ _ _); k_dflt (refine' sayP_use (is_whole_ _ _ _ _ _ _ _) ?k1_05_0 ?k2_05_0 ?k3_05_0 ?k4_05_0 ?k5_05_0 ?kK_05_0 ?kd_05_0 ?ku_05_0 ?_; (case k1_05_0 => k_asm); (case k2_05_0 => k_asm); (case k3_05_0 => k_asm); (case k4_05_0 => k_asm); (case k5_05_0 => k_asm); (case kK_05_0 => first | exact rfl | assumption); (case kd_05_0 => k_room); (case ku_05_0 => k_units); k_whole); intro v' h' tk' e' F' N'; subst e'; (try k_sweep))))
    | ((with_reducible show wpAny _ _ (eval (Expr.Name _ _) _) _ _ _); with_reducible (k_dflt (first | ((with_reducible show wpAny _ _ (eval (Expr.Name _ _) (envOf _ _ _ _ _)) _ _ _); first | (refine' ld ?k1_08_2 ?k2_08_2 ?_ (hk := rfl) (hl := ?kl_08_2) (hd := ?kd_08_2); (case kl_08_2 => kernel_rfl); (case k1_08_2 => with_reducible assumption); (case k2_08_2 => exact rfl); (case kd_08_2 => decide +kernel)) | (refine' name_K ?kF_08_2 ?k1_08_2 ?k2_08_2 ?k3_08_2 ?_ (hk := rfl) (hx := ?kl_08_2) (hd := ?kd_08_2); (case kF_08_2 => with_reducible assumption); (case k1_08_2 => with_reducible assumption); (case k2_08_2 => k_asm); (case k3_08_2 => k_is); (case kl_08_2 => kernel_rfl); (case kd_08_2 => decide +kernel); k_whole)))))
    | ((with_reducible show ite _ _ _); with_reducible ((k_here; k_openite; k_spoken; first | (refine ite_pos (by first | omega | (simp only [decide_eq_true_eq, beq_iff_eq, bne_iff_ne, ne_eq]; omega)) ?_; walk_say "DECIDED") | (refine ite_neg (by first | omega | (simp only [decide_eq_true_eq, beq_iff_eq, bne_iff_ne, ne_eq]; omega)) ?_; walk_say "DECIDED"))))
    | walk1
    | (dsimp only; walk1)
    | (leave1; walk_say "STEP leave1"; try dsimp only)
    | fail "no step")
  all_goals first
    | exact ret _ _ _ _ _ _ _ _ _ _ _ _ _ _ _ _ _ _ _ (by assumption) (by assumption) (by assumption) (by assumption) (by k_asm) (by k_asm) (by assumption) (by assumption) (fun q hq => Nat.lt_trans (l1A q hq) l2A) (by omega) (by omega) (fun q hq => Nat.lt_trans (l1A q hq) (by have := l2A; omega))
    | (with_reducible rename RaisedSN _ _ _ _ _ _ _ => R9; with_reducible rename Heap.UpToSlots _ _ => hs9
       exact leave_onSN (by k_asm) (by k_asm) R9 hs9 (fun h' R _ hs => err _ _ _ _ (by k_asm) (Mine.RaisedSN.shrink R (by intro q9 hq9; k_mem)) hs))
theorem ne_lt {a b : Addr} (h : @LT.lt Nat _ b a ∨ @LT.lt Nat _ a b) : a ≠ b := fun e => by
  subst e
  omega
theorem ne_in {d a : Addr} {o : Obj} {led : List (Addr × Obj)} (h : AllLt d led) (hm : (a, o) ∈ led) : a ≠ d := allLt_ne h _ hm
theorem natural_use {w : World} {l : Addr} {vs : List Value} {nn : Nat} {nds : List Nd} {led : List (Addr × Obj)} {p : Program} {loose : List Str} {mean : ExcName → Option Value} {mg mb : Str → Option Value} {dp un : Nat} {gd : Option (List Code)} {cn : Str} {cs : Scope} {ad : Addr} {ccd : Value} {cl : List (Str × Addr)} {outer : List Env} {A₀ : Around} {base h₀ : Heap} {L : Addr} {m : Str → Option Value} {hp₁ : Heap} {gn₁ : Array GenState} {dr₁ : Drawn} {tk₁ : Nat} {os₁ : OsState}
    {Q E : Value → Shared → Prop} (hl : (l, listOf vs.toArray nn) ∈ led) (hNs : NodesAt w.params led vs nds) (B : Below A₀ base outer h₀) (F : Fr h₀ L hp₁ m) (X : (hd.heap_1 w.params).In h₀) (N : News h₀ L hp₁ led) (T : Top p loose mean mg mb h₀) (hk : cs.kind = .function)
    (hd : dp + 9 < recursionLimit) (hu : un + 120 < cLine)
    (ret : ∀ (tp x dx ls lk : Addr) (a0 a1 a2 : Tok) (nat : Int) (tn : Tok) (wd : Int) (tw : Tok) (dp : Int) (td : Tok) (vs1 : List Value) (n1 : Nat) (vs2 : List Value) (n2 : Nat) (ns1 ns2 : List Int) h' tk',
      IntsAre vs1 ns1 → ns1.length = 4 → IntsAre vs2 ns2 → ns2.length = 4 → Bd vs.length ns1 → Bd vs.length ns2 → AllLt dx led → AllLt x led → AllLt ls led → AllLt lk led → AllLt tp led → @LT.lt Nat _ dx x → @LT.lt Nat _ x ls → @LT.lt Nat _ ls lk → @LT.lt Nat _ lk tp →
      Fr h₀ L h' m → News h₀ L h' ((tp, tupO [.ref x, .int wd tw, .int dp td]) :: (lk, listOf vs2.toArray n2) :: (ls, listOf vs1.toArray n1) :: (x, instObj 297 dx) :: (dx, totD w.params a0 a1 a2 ls lk nat tn) :: led) → Q (.ref tp) (.mk h' gn₁ dr₁ tk' os₁)) :
    wpAny (model prog w) (ktrTop dp un gd cn cs L ad ccd cl outer) (call (.ref 548) [.ref l]) Q E (.mk hp₁ gn₁ dr₁ tk₁ os₁) := by
  refine natural_ w hl hNs p loose mean mg mb dp un gd cn cs ad ccd cl outer A₀ base h₀ L m (.mk hp₁ gn₁ dr₁ tk₁ os₁) Q E B F X N T hk hd hu ?_
  rintro v led' h' tk' F' N' ⟨tp, x, dx, ls, lk, a0, a1, a2, nat, tn, wd, tw, dp, td, vs1, n1, vs2, n2, ns1, ns2, rfl, rfl, i1, e1, i2, e2, b1, b2, l0, l1, l2, l3, l4⟩
  have l1' : @LE.le Nat _ dx x := Nat.le_of_lt l1
  have l2' : @LE.le Nat _ dx ls := Nat.le_of_lt (Nat.lt_trans l1 l2)
  have l3' : @LE.le Nat _ dx lk := Nat.le_of_lt (Nat.lt_trans l1 (Nat.lt_trans l2 l3))
  have l4' : @LE.le Nat _ dx tp := Nat.le_of_lt (Nat.lt_trans l1 (Nat.lt_trans l2 (Nat.lt_trans l3 l4)))
  exact ret tp x dx ls lk a0 a1 a2 nat tn wd tw dp td vs1 n1 vs2 n2 ns1 ns2 h' tk' i1 e1 i2 e2 b1 b2 l0 (allLt_mono l1' l0) (allLt_mono l2' l0) (allLt_mono l3' l0) (allLt_mono l4' l0) l1 l2 l3 l4 F' N'
theorem setbox_use {w : World} {bx dbx it x dx ls lk rt0 : Addr} {a0 a1 a2 tn t b0 b1' b2' b3 b4 b5 b6 b7 b8 : Tok} {vk vw vh vd vsh vg vo : Value} {nat e : Int} {vs vs1 vs2 : List Value} {nn n1 n2 i : Nat} {ns1 ns2 : List Int} {led : List (Addr × Obj)} {gl : Obj → List (Addr × Obj)} {p : Program} {loose : List Str} {mean : ExcName → Option Value} {mg mb : Str → Option Value} {dp un : Nat} {gd : Option (List Code)} {cn : Str} {cs : Scope} {ad : Addr} {ccd : Value} {cl : List (Str × Addr)} {outer : List Env} {A₀ : Around} {base h₀ : Heap} {L : Addr} {m : Str → Option Value} {hp₁ : Heap} {gn₁ : Array GenState} {dr₁ : Drawn} {tk₁ : Nat} {os₁ : OsState}
    {Q E : Value → Shared → Prop} (m0 : (bx, instObj 342 dbx) ∈ led) (mi : (it, listOf vs.toArray nn) ∈ led) (hv : 0 < vs.length) (m1 : (x, instObj 297 dx) ∈ led) (m2 : (dx, totD w.params a0 a1 a2 ls lk nat tn) ∈ led) (m3 : (ls, listOf vs1.toArray n1) ∈ led) (m4 : (lk, listOf vs2.toArray n2) ∈ led)
    (i1 : IntsAre vs1 ns1) (i2 : IntsAre vs2 ns2) (e1 : ns1.length = 4) (e2 : ns2.length = 4) (b1 : Bd i ns1) (b2 : Bd i ns2) (h8 : i ≤ 8)
    (B : Below A₀ base outer h₀) (F : Fr h₀ L hp₁ m) (X : (hd.heap_1 w.params).In h₀) (N : News h₀ L hp₁ led) (T : Top p loose mean mg mb h₀) (hk : cs.kind = .function)
    (U : UpdF dbx (boxO w.params b0 b1' b2' b3 b4 b5 b6 b7 b8 vk vw vh vd it vsh vg vo rt0) led gl)
    (n0 : bx ≠ dbx) (ni : it ≠ dbx) (nx : x ≠ dbx) (nd : dx ≠ dbx) (ns : ls ≠ dbx) (nk : lk ≠ dbx)
    (hd : dp + 7 < recursionLimit) (hu : un + 90 < cLine)
    (ret : ∀ (rp rt : Addr) (sg od p q : Int) (t1 t2 t3 t4 : Tok) h' tk', (∀ y ∈ led, y.1 < rt) → 0 < q → q ≤ 2000 → Fr h₀ L h' m →
      News h₀ L h' ((rt, tupO [.int p t3, .int q t4]) :: gl (boxO w.params b0 b1' b2' b3 b4 b5 b6 b7 b8 vk vw vh vd it vsh (.int sg t1) (.int od t2) rt)) → Q (.ref rp) (.mk h' gn₁ dr₁ tk' os₁)) :
    wpAny (model prog w) (ktrTop dp un gd cn cs L ad ccd cl outer) (call (.ref 604) [.ref bx, .ref x, .int e t]) Q E (.mk hp₁ gn₁ dr₁ tk₁ os₁) := by
  obtain ⟨pre, post, e', eg, h1, h2⟩ := U.split
  subst e'
  have inn : ∀ (a : Addr) (o : Obj), a ≠ dbx → (a, o) ∈ pre ++ (dbx, boxO w.params b0 b1' b2' b3 b4 b5 b6 b7 b8 vk vw vh vd it vsh vg vo rt0) :: post → (a, o) ∈ pre ++ post := fun a o ha hm => by
    rcases List.mem_append.mp hm with hm | hm
    · exact List.mem_append_left _ hm
    · rcases List.mem_cons.mp hm with hm | hm
      · cases hm; exact absurd rfl ha
      · exact List.mem_append_right _ hm
  have N1 : News h₀ L hp₁ ((dbx, boxO w.params b0 b1' b2' b3 b4 b5 b6 b7 b8 vk vw vh vd it vsh vg vo rt0) :: (pre ++ post)) := fun q hq => N q (by
    rcases List.mem_cons.mp hq with rfl | hq
    · simp
    · rcases List.mem_append.mp hq with hq | hq <;> simp [hq])
  refine setbox_ w (inn _ _ n0 m0) (inn _ _ ni mi) hv (inn _ _ nx m1) (inn _ _ nd m2) (inn _ _ ns m3) (inn _ _ nk m4) i1 i2 e1 e2 b1 b2 h8 (fun q hq => (List.mem_append.mp hq).elim (h1 q) (h2 q)) p loose mean mg mb dp un gd cn cs ad ccd cl outer A₀ base h₀ L m (.mk hp₁ gn₁ dr₁ tk₁ os₁) Q E B F X N1 T hk hd hu ?_
  rintro v led' h' tk' F' N' ⟨rp, rt, sg, od, p, q, t1, t2, t3, t4, rfl, rfl, l1, l2, q0, q1⟩
  refine ret rp rt sg od p q t1 t2 t3 t4 h' tk' (fun y hy => ?_) q0 q1 F' ?_
  · rcases List.mem_append.mp hy with hy | hy
    · exact lt_all l2 y (List.mem_append_left _ hy)
    · rcases List.mem_cons.mp hy with rfl | hy
      · exact l1
      · exact lt_all l2 y (List.mem_append_right _ hy)
  · rw [eg]
    exact fun q hq => N' q (by
      rcases List.mem_cons.mp hq with rfl | hq
      · simp
      · rcases List.mem_append.mp hq with hq | hq
        · simp [hq]
        · rcases List.mem_cons.mp hq with rfl | hq <;> simp_all)
inductive VOut (P : Params) (l : Addr) (led : List (Addr × Obj)) (v : Value) (led' : List (Addr × Obj)) : Prop where
  | mk : ∀ (tp bx dbx rp rt : Addr) (a0 a1 a2 a3 a4 a5 a6 a7 a8 t1 t2 t3 t4 t5 t6 t7 t8 t9 : Tok) (wd h d sg od p q : Int), v = .ref tp → led' = (tp, tupO [.ref bx, .ref rp]) :: (bx, instObj 342 dbx) :: (dbx, boxO P a0 a1 a2 a3 a4 a5 a6 a7 a8 (.int 3 t1) (.int wd t2) (.int h t3) (.int d t4) l (.int 0 t5) (.int sg t6) (.int od t7) rt) :: (rt, tupO [.int p t8, .int q t9]) :: led → AllLt dbx led → @LT.lt Nat _ dbx bx → @LT.lt Nat _ dbx rt → @LT.lt Nat _ dbx tp → 0 < q → q ≤ 2000 → -1073741823 ≤ h → h ≤ 1073741823 → -1073741823 ≤ d → d ≤ 1073741823 → VOut P l led v led'
set_option maxHeartbeats 8000000 in
theorem vpackX (w : World) {l : Addr} {vs : List Value} {nn : Nat} {nds : List Nd} {mode am most : Int} {t1 t2 t3 : Tok} {led : List (Addr × Obj)} (hl : (l, listOf vs.toArray nn) ∈ led) (hNs : NodesAt w.params led vs nds) (hv : 0 < vs.length) (h8 : vs.length ≤ 8)
    (hm0 : 0 ≤ mode) (hm1 : mode ≤ 1) (ha0 : -1073741823 ≤ am) (ha1 : am ≤ 1073741823) (hb0 : 0 ≤ most) (hb1 : most ≤ 1073741823) :
    SayX w 612 [.ref l, .int mode t1, .int am t2, .int most t3] led 16 200 (VOut w.params l led) True := by
  refine sayX_in ?_
  intro p loose mean mg mb dp un gd cn cs a ccd cl outer A₀ base h₀ L m hp₀ gn₀ dr₀ tk₀ os₀ Q E B F X N T hk hd hu hret herr
  w_on
  refine wpAny_call ?_
  k_dflt ktr_enter
  repeat' (first
    | (k_unfold; (try dsimp only))
    | (k_end; wrow_close)
    | ((with_reducible show wpAny _ _ (call _ _) _ _ _); (try k_fold); first
      | with_reducible ((k_here; (with_reducible show wpAny _ _ (call (Value.ref 604) [Value.ref _, Value.ref _, Value.int _ _]) _ _ _); k_dflt (refine' setbox_use ?m0_18_3 ?mi_18_3 ?hv_18_3 ?m1_18_3 ?m2_18_3 ?m3_18_3 ?m4_18_3 ?i1_18_3 ?i2_18_3 ?e1_18_3 ?e2_18_3 ?b1_18_3 ?b2_18_3 ?b3_18_3 ?k1_18_3 ?k2_18_3 ?k3_18_3 ?k4_18_3 ?k5_18_3 ?kK_18_3 ?U_18_3 ?n0_18_3 ?ni_18_3 ?nx_18_3 ?nd_18_3 ?ns_18_3 ?nk_18_3 ?kd_18_3 ?ku_18_3 ?_; (case k1_18_3 => k_asm); (case k2_18_3 => k_asm); (case k3_18_3 => k_asm); (case k4_18_3 => k_asm); (case k5_18_3 => k_asm); (case kK_18_3 => first | exact rfl | assumption); (case m0_18_3 => k_mem); (case U_18_3 => k_updF); (case m1_18_3 => k_mem); (case m2_18_3 => k_mem); (case m3_18_3 => k_mem); (case m4_18_3 => k_mem); (case mi_18_3 => k_mem); (case hv_18_3 => with_reducible assumption); (case i1_18_3 => with_reducible assumption); (case i2_18_3 => with_reducible assumption); (case e1_18_3 => with_reducible assumption); (case e2_18_3 => with_reducible assumption); (case b1_18_3 => with_reducible assumption); (case b2_18_3 => with_reducible assumption); (case b3_18_3 => with_reducible assumption); (case n0_18_3 => first | (refine' ne_in ?za_18_3 ?zb_18_3; (case za_18_3 => with_reducible assumption); (case zb_18_3 => with_reducible assumption)) | (refine ne_lt ?zc_18_3; (case zc_18_3 => omega))); (case ni_18_3 => first | (refine' ne_in ?za_18_3 ?zb_18_3; (case za_18_3 => with_reducible assumption); (case zb_18_3 => with_reducible assumption)) | (refine ne_lt ?zc_18_3; (case zc_18_3 => omega))); (case nx_18_3 => first | (refine' ne_in ?za_18_3 ?zb_18_3; (case za_18_3 => with_reducible assumption); (case zb_18_3 => with_reducible assumption)) | (refine ne_lt ?zc_18_3; (case zc_18_3 => omega))); (case nd_18_3 => first | (refine' ne_in ?za_18_3 ?zb_18_3; (case za_18_3 => with_reducible assumption); (case zb_18_3 => with_reducible assumption)) | (refine ne_lt ?zc_18_3; (case zc_18_3 => omega))); (case ns_18_3 => first | (refine' ne_in ?za_18_3 ?zb_18_3; (case za_18_3 => with_reducible assumption); (case zb_18_3 => with_reducible assumption)) | (refine ne_lt ?zc_18_3; (case zc_18_3 => omega))); (case nk_18_3 => first | (refine' ne_in ?za_18_3 ?zb_18_3; (case za_18_3 => with_reducible assumption); (case zb_18_3 => with_reducible assumption)) | (refine ne_lt ?zc_18_3; (case zc_18_3 => omega))); (case kd_18_3 => k_room); (case ku_18_3 => k_units); k_whole); intro rp' rt' sg' od' p' q' t1' t2' t3' t4' h' tk' l1' q0' q1' F' N'; (try dsimp only at N'); (try k_lt l1'); (try k_sweep)))
      | with_reducible ((k_here; (with_reducible show wpAny _ _ (call (Value.ref 342) [Value.int _ _, Value.int _ _, Value.int _ _, Value.int _ _, Value.ref _]) _ _ _); focus (k_dflt (refine' mkBoxX ?k1_18_2 ?k2_18_2 ?k3_18_2 ?k4_18_2 ?k5_18_2 ?kK_18_2 ?kd_18_2 ?ku_18_2 ?h1_18_2 ?h2_18_2 ?_ ?_; (case k1_18_2 => k_asm); (case k2_18_2 => k_asm); (case k3_18_2 => k_asm); (case k4_18_2 => k_asm); (case k5_18_2 => k_asm); (case kK_18_2 => first | exact rfl | assumption); (case kd_18_2 => k_room); (case ku_18_2 => k_units); (case h1_18_2 => decide); (case h2_18_2 => decide)); (intro x' dx' r' b1' b2' b3' b4' b5' a0' a1' a2' a3' a4' a5' a6' a7' a8' h' tk' z1' z2' z3' z4' F' N' l1' o1' l2' o2' o3' l3'; (try k_lt l1'); (try k_lt l2'); (try k_lt l3'); (try k_sweep)); rotate_left; (intro g9' e9' h9' tk9' FG9' R9' hs9'); rotate_right)))
      | with_reducible ((k_here; (with_reducible show wpAny _ _ (call (Value.ref 597) [Value.int _ _, Value.int _ _, Value.int _ _]) _ _ _); k_dflt (refine' sayL_use (goal_ _ ?h0_18_1 ?h1_18_1 ?h2_18_1 ?h3_18_1) ?k1_18_1 ?k2_18_1 ?k3_18_1 ?k4_18_1 ?k5_18_1 ?kK_18_1 ?kd_18_1 ?ku_18_1 ?_; (case k1_18_1 => k_asm); (case k2_18_1 => k_asm); (case k3_18_1 => k_asm); (case k4_18_1 => k_asm); (case k5_18_1 => k_asm); (case kK_18_1 => first | exact rfl | assumption); (case kd_18_1 => k_room); (case ku_18_1 => k_units); (case h0_18_1 => omega); (case h1_18_1 => omega); (case h2_18_1 => omega); (case h3_18_1 => omega); k_whole); intro v' h' tk' r' F' N'; obtain ⟨k', t', e'⟩ := r'; subst e'; (try k_sweep)))
      | with_reducible ((k_here; (with_reducible show wpAny _ _ (call (Value.ref 548) [Value.ref _]) _ _ _); k_dflt (refine' natural_use ?kl_18_0 ?kn_18_0 ?k1_18_0 ?k2_18_0 ?k3_18_0 ?k4_18_0 ?k5_18_0 ?kK_18_0 ?kd_18_0 ?ku_18_0 ?_; (case kn_18_0 => with_reducible assumption); (case k1_18_0 => k_asm); (case k2_18_0 => k_asm); (case k3_18_0 => k_asm); (case k4_18_0 => k_asm); (case k5_18_0 => k_asm); (case kK_18_0 => first | exact rfl | assumption); (case kd_18_0 => k_room); (case ku_18_0 => k_units); (case kl_18_0 => k_mem); k_whole); intro tp' x' dx' ls' lk' a0' a1' a2' nat' tn' wd' tw' dp' td' vs1' n1' vs2' n2' ns1' ns2' h' tk' i1' e1' i2' e2' bd1' bd2' l0' l1' l2' l3' l4' o1' o2' o3' o4' F' N'; (try k_sweep)))
      | with_reducible ((k_here; (with_reducible show wpAny _ _ (call (Value.ref 110) [Value.int _ _]) _ _ _); first | (k_dflt (refine' sayP_use (dimen_ _ _ _ ?h1_17_0 ?h2_17_0) ?k1_17_0 ?k2_17_0 ?k3_17_0 ?k4_17_0 ?k5_17_0 ?kK_17_0 ?kd_17_0 ?ku_17_0 ?_; (case h1_17_0 => first | assumption | omega); (case h2_17_0 => first | assumption | omega); (case k1_17_0 => k_asm); (case k2_17_0 => k_asm); (case k3_17_0 => k_asm); (case k4_17_0 => k_asm); (case k5_17_0 => k_asm); (case kK_17_0 => first | exact rfl | assumption); (case kd_17_0 => k_room); (case ku_17_0 => k_units); k_whole); intro v' h' tk' e' F' N'; subst e'; (try k_sweep)) | focus (k_dflt (refine' dimenX_use ?k1_17_0 ?k2_17_0 ?k3_17_0 ?k4_17_0 ?k5_17_0 ?kK_17_0 ?kd_17_0 ?ku_17_0 ?_ ?_; (case k1_17_0 => k_asm); (case k2_17_0 => k_asm); (case k3_17_0 => k_asm); (case k4_17_0 => k_asm); (case k5_17_0 => k_asm); (case kK_17_0 => first | exact rfl | assumption); (case kd_17_0 => k_room); (case ku_17_0 => k_units)); (intro h' tk' b1' b2' F' N'; (try k_sweep)); rotate_left; (intro g9' e9' h9' tk9' hz9' FG9' R9' hs9'); rotate_right))))
    | ((with_reducible show wpAny _ _ (eval (Expr.Name _ _) _) _ _ _); with_reducible (k_dflt (first | ((with_reducible show wpAny _ _ (eval (Expr.Name _ _) (envOf _ _ _ _ _)) _ _ _); first | (refine' ld ?k1_08_2 ?k2_08_2 ?_ (hk := rfl) (hl := ?kl_08_2) (hd := ?kd_08_2); (case kl_08_2 => kernel_rfl); (case k1_08_2 => with_reducible assumption); (case k2_08_2 => exact rfl); (case kd_08_2 => decide +kernel)) | (refine' name_K ?kF_08_2 ?k1_08_2 ?k2_08_2 ?k3_08_2 ?_ (hk := rfl) (hx := ?kl_08_2) (hd := ?kd_08_2); (case kF_08_2 => with_reducible assumption); (case k1_08_2 => with_reducible assumption); (case k2_08_2 => k_asm); (case k3_08_2 => k_is); (case kl_08_2 => kernel_rfl); (case kd_08_2 => decide +kernel); k_whole)))))
    | walk1
    | (dsimp only; walk1)
    | (leave1; walk_say "STEP leave1"; try dsimp only)
    | fail "no step")
  all_goals first
    | exact hret _ _ _ _ (by k_asm) (cb_drop (by k_asm) (by kcf_all)) ⟨_, _, _, _, _, _, _, _, _, _, _, _, _, _, _, _, _, _, _, _, _, _, _, _, _, _, _, _, _, _, rfl, rfl, by assumption, by omega, by omega, by omega, by assumption, by assumption, by assumption, by assumption, by assumption, by assumption⟩
    | (with_reducible rename RaisedSN _ _ _ _ _ _ _ => R9; with_reducible rename Heap.UpToSlots _ _ => hs9
       exact leave_onSN (by k_asm) (by k_asm) R9 hs9 (fun h' R _ hs => herr _ _ _ _ trivial (by k_asm) (Mine.RaisedSN.shrink R (by intro q9 hq9; k_mem)) hs))
section
variable {w : World} {A : Around} {E : Value → Shared → Prop} {s : Shared} {u : Tok} {Q : Value → Shared → Prop} {h₀ : Heap} {L D : Addr} {news : List (Addr × Obj)} {v : Value} {vs : List Value} {n : Nat}
theorem sub_first {value slice : PySem.Expr} (N : News h₀ L s.heap news) (hm : (D, listOf (v :: vs).toArray n) ∈ news) (h : Q v s)
    (hs : subscripted slice false (.ref D) (.int 0 u) = operate [.ref D, .int 0 u] (getItem (.ref D) (.int 0 u)) := by with_unfolding_all rfl) :
    wpAny (model prog w) A (subscriptTail value slice (.ref D) (.int 0 u)) Q E s := by
  have hL : s.heap.IsList D (v :: vs).toArray := ⟨_, N.get hm, rfl, n, rfl⟩
  exact tail_any hL.typeIs slot_list_getitem.lookup (wpAny_getItem_list hL (by decide) (by decide) (by simp) h) hs
end
theorem heightF_none {P : Params} {v : Value} {nd : Nd} {new : List (Addr × Obj)} (hN : NodeAt P v nd new) (h : 4 < kindF nd) : heightF nd = 0 := by
  cases hN <;> first | rfl | (exfalso; simp only [kindF] at *; omega)
abbrev HangOut (P : Params) (dbx : Addr) (a0 a1 a2 a3 a4 a5 a6 a7 a8 : Tok) (vk vw : Value) (hh hd : Int) (l : Addr) (vsh vg vo : Value) (rt : Addr) (rest : List (Addr × Obj)) (v : Value) (led' : List (Addr × Obj)) : Prop :=
  v = .none ∧ (-1073741823 ≤ hd ∧ hd ≤ 1073741823) ∧ ∃ u1 u2, led' = (dbx, boxO P a0 a1 a2 a3 a4 a5 a6 a7 a8 vk vw (.int hh u1) (.int hd u2) l vsh vg vo rt) :: rest
set_option maxHeartbeats 8000000 in
theorem hangX (w : World) {bx dbx l rt : Addr} {a0 a1 a2 a3 a4 a5 a6 a7 a8 u1 u2 : Tok} {vk vw vsh vg vo v0 : Value} {h d : Int} {vr : List Value} {nn : Nat} {nd : Nd} {new rest : List (Addr × Obj)}
    (m0 : (bx, instObj 342 dbx) ∈ rest) (ml : (l, listOf (v0 :: vr).toArray nn) ∈ rest) (hN : NodeAt w.params v0 nd new) (hsub : ∀ p ∈ new, p ∈ rest) (hoff : ∀ p ∈ rest, p.1 ≠ dbx) :
    SayX w 519 [.ref bx] ((dbx, boxO w.params a0 a1 a2 a3 a4 a5 a6 a7 a8 vk vw (.int h u1) (.int d u2) l vsh vg vo rt) :: rest) 14 200 (HangOut w.params dbx a0 a1 a2 a3 a4 a5 a6 a7 a8 vk vw (heightF nd) (h + d - heightF nd) l vsh vg vo rt rest)
      (¬ (-1073741823 ≤ h + d - heightF nd ∧ h + d - heightF nd ≤ 1073741823)) := by
  refine sayX_in ?_
  intro p loose mean mg mb dp un gd cn cs a ccd cl outer A₀ base h₀ L m hp₀ gn₀ dr₀ tk₀ os₀ Q E B F X N T hk hd hu hret herr
  have hv0 : 0 < (v0 :: vr).length := Nat.succ_pos _
  obtain ⟨n1, n2, n3⟩ := kind_in hN
  w_on
  refine wpAny_call ?_
  k_dflt ktr_enter
  repeat' (first
    | (k_unfold; (try dsimp only))
    | (k_end; wrow_close)
    | ((with_reducible show wpAny _ _ (subscriptTail _ _ _ _) _ _ _); with_reducible ((k_here; (with_reducible show wpAny _ _ (subscriptTail _ _ (Value.ref _) (Value.int 0 _)) _ _ _); (with_unfolding_all refine' sub_first ?k1_19_0 ?k2_19_0 ?_ ?k6_19_0; (case k1_19_0 => k_asm); (case k2_19_0 => k_mem); (case k6_19_0 => with_unfolding_all rfl); k_whole))))
    | ((with_reducible show wpAny _ _ (call _ _) _ _ _); (try k_fold); first
      | with_reducible ((k_here; (with_reducible show wpAny _ _ (call (Value.ref 110) [Value.int _ _]) _ _ _); first | (k_dflt (refine' sayP_use (dimen_ _ _ _ ?h1_17_0 ?h2_17_0) ?k1_17_0 ?k2_17_0 ?k3_17_0 ?k4_17_0 ?k5_17_0 ?kK_17_0 ?kd_17_0 ?ku_17_0 ?_; (case h1_17_0 => first | assumption | omega); (case h2_17_0 => first | assumption | omega); (case k1_17_0 => k_asm); (case k2_17_0 => k_asm); (case k3_17_0 => k_asm); (case k4_17_0 => k_asm); (case k5_17_0 => k_asm); (case kK_17_0 => first | exact rfl | assumption); (case kd_17_0 => k_room); (case ku_17_0 => k_units); k_whole); intro v' h' tk' e' F' N'; subst e'; (try k_sweep)) | focus (k_dflt (refine' dimenX_use ?k1_17_0 ?k2_17_0 ?k3_17_0 ?k4_17_0 ?k5_17_0 ?kK_17_0 ?kd_17_0 ?ku_17_0 ?_ ?_; (case k1_17_0 => k_asm); (case k2_17_0 => k_asm); (case k3_17_0 => k_asm); (case k4_17_0 => k_asm); (case k5_17_0 => k_asm); (case kK_17_0 => first | exact rfl | assumption); (case kd_17_0 => k_room); (case ku_17_0 => k_units)); (intro h' tk' b1' b2' F' N'; (try k_sweep)); rotate_left; (intro g9' e9' h9' tk9' hz9' FG9' R9' hs9'); rotate_right)))
      | with_reducible ((k_here; (with_reducible show wpAny _ _ (call (Value.ref 493) [_]) _ _ _); k_dflt (refine' sayN_use (height_ _ ?kn_08_12) ?ks_08_12 ?k1_08_12 ?k2_08_12 ?k3_08_12 ?k4_08_12 ?k5_08_12 ?kK_08_12 ?kd_08_12 ?ku_08_12 ?_; (case kn_08_12 => with_reducible assumption); (case k1_08_12 => k_asm); (case k2_08_12 => k_asm); (case k3_08_12 => k_asm); (case k4_08_12 => k_asm); (case k5_08_12 => k_asm); (case kK_08_12 => first | exact rfl | assumption); (case kd_08_12 => k_room); (case ku_08_12 => k_units); (case ks_08_12 => first | with_reducible assumption | kcf_all | (intro p9 hp9; (with_reducible rename ∀ p ∈ _, p ∈ _ => hs9); (have h9 := hs9 p9 hp9); k_mem)); k_whole); intro v' h' tk' e' F' N'; obtain ⟨t', e'⟩ := e'; subst e'; (try k_sweep))))
    | ((with_reducible show wpAny _ _ (compareOp _ _ _) _ _ _); with_reducible ((k_here; (with_reducible show wpAny _ _ (compareOp CmpOp.NotEq (Value.ref _) (Value.ref _)) _ _ _); k_dflt (refine' ne_nil ?k1_14_0 ?k2_14_0 ?k3_14_0 ?k4_14_0 ?k5_14_0 ?_; (case k1_14_0 => k_asm); (case k2_14_0 => k_mem); (case k3_14_0 => k_mem); (case k4_14_0 => with_reducible assumption); (case k5_14_0 => k_units); k_whole))))
    | ((with_reducible show wpAny _ _ (getAttr _ _ _) _ _ _); (fail_if_success (with_reducible show wpAny _ _ (getAttr (Value.ref _) _ _) _ _ _)); (try k_fold); with_reducible ((k_here; (with_reducible show wpAny _ _ (getAttr _ (Str.ofString "kind") _) _ _ _); k_dflt (refine' kind_get ?k1_08_4 ?k2_08_4 ?k3_08_4 ?k4_08_4 ?k5_08_4 ?_; (case k1_08_4 => with_reducible assumption); (case k3_08_4 => k_asm); (case k4_08_4 => k_asm); (case k5_08_4 => k_asm); (case k2_08_4 => first | with_reducible assumption | (intro p9 hp9; (with_reducible rename ∀ p ∈ _, p ∈ _ => hs9); (have h9 := hs9 p9 hp9); k_mem)); k_whole); intro t' k')))
    | ((with_reducible show wpAny _ _ (eval (Expr.Name _ _) _) _ _ _); with_reducible (k_dflt (first | ((with_reducible show wpAny _ _ (eval (Expr.Name _ _) (envOf _ _ _ _ _)) _ _ _); first | (refine' ld ?k1_08_2 ?k2_08_2 ?_ (hk := rfl) (hl := ?kl_08_2) (hd := ?kd_08_2); (case kl_08_2 => kernel_rfl); (case k1_08_2 => with_reducible assumption); (case k2_08_2 => exact rfl); (case kd_08_2 => decide +kernel)) | (refine' name_K ?kF_08_2 ?k1_08_2 ?k2_08_2 ?k3_08_2 ?_ (hk := rfl) (hx := ?kl_08_2) (hd := ?kd_08_2); (case kF_08_2 => with_reducible assumption); (case k1_08_2 => with_reducible assumption); (case k2_08_2 => k_asm); (case k3_08_2 => k_is); (case kl_08_2 => kernel_rfl); (case kd_08_2 => decide +kernel); k_whole)))))
    | ((with_reducible show ite _ _ _); first
      | with_reducible ((k_closed; k_dflt (first | refine ite_pos (by decide) ?_ | refine ite_neg (by decide) ?_)))
      | with_reducible ((k_here; k_openite; k_spoken; first | (refine ite_pos (by first | omega | (simp only [decide_eq_true_eq, beq_iff_eq, bne_iff_ne, ne_eq]; omega)) ?_; walk_say "DECIDED") | (refine ite_neg (by first | omega | (simp only [decide_eq_true_eq, beq_iff_eq, bne_iff_ne, ne_eq]; omega)) ?_; walk_say "DECIDED"))))
    | walk1
    | (dsimp only; walk1)
    | (leave1; walk_say "STEP leave1"; try dsimp only)
    | fail "no step")
  all_goals first
    | exact hret _ _ _ _ (by k_asm) (cb_drop (by k_asm) (by kcf_all)) ⟨rfl, ⟨by assumption, by assumption⟩, _, _, rfl⟩
    | (have e9 : heightF nd = 0 := heightF_none hN (by omega); rw [e9] at hret; exact hret _ _ _ _ (by k_asm) (cb_drop (by k_asm) (by kcf_all)) ⟨rfl, ⟨by assumption, by assumption⟩, _, _, rfl⟩)
    | (with_reducible rename RaisedSN _ _ _ _ _ _ _ => R9; with_reducible rename Heap.UpToSlots _ _ => hs9
       exact leave_onSN (by k_asm) (by k_asm) R9 hs9 (fun h' R _ hs => herr _ _ _ _ (by first | assumption | (have e9 : heightF nd = 0 := heightF_none hN (by omega); rw [e9]; assumption)) (by k_asm) (Mine.RaisedSN.shrink R (by intro q9 hq9; k_mem)) hs))
/-- what a value reads as, wherever the ledger stands -/
def RdIn (led : List (Addr × Obj)) (v : Value) (d : PyData) : Prop := ∀ h : Heap, (∀ p ∈ led, h.get? p.1 = some p.2) → ∃ as, Reads h v d as
def RdAll (led : List (Addr × Obj)) (vs : List Value) (ds : List PyData) : Prop := ∀ h : Heap, (∀ p ∈ led, h.get? p.1 = some p.2) → ∃ as, ReadsAll h vs ds as
theorem RdIn.mono {led led' : List (Addr × Obj)} {v : Value} {d : PyData} (x : RdIn led v d) (k : ∀ p ∈ led, p ∈ led') : RdIn led' v d := fun h H => x h fun p hp => H p (k p hp)
theorem RdAll.mono {led led' : List (Addr × Obj)} {v : List Value} {d : List PyData} (x : RdAll led v d) (k : ∀ p ∈ led, p ∈ led') : RdAll led' v d := fun h H => x h fun p hp => H p (k p hp)
theorem RdIn.int {led : List (Addr × Obj)} {i : Int} {t : Tok} : RdIn led (.int i t) (.int i) := fun _ _ => ⟨_, .int i t⟩
theorem RdAll.nil {led : List (Addr × Obj)} : RdAll led [] [] := fun _ _ => ⟨_, .nil⟩
theorem RdAll.cons {led : List (Addr × Obj)} {v : Value} {vs : List Value} {d : PyData} {ds : List PyData} (x : RdIn led v d) (y : RdAll led vs ds) : RdAll led (v :: vs) (d :: ds) := fun h H => by
  obtain ⟨a, ha⟩ := x h H
  obtain ⟨b, hb⟩ := y h H
  exact ⟨_, .cons ha hb⟩
theorem readsAll_snoc {h : Heap} {v : Value} {d : PyData} {a : List Addr} (x : Reads h v d a) : ∀ {vs : List Value} {ds : List PyData} {b : List Addr}, ReadsAll h vs ds b → ∃ c, ReadsAll h (vs ++ [v]) (ds ++ [d]) c
  | _, _, _, .nil => ⟨_, .cons x .nil⟩
  | _, _, _, .cons h1 h2 => by
    obtain ⟨c, hc⟩ := readsAll_snoc x h2
    exact ⟨_, .cons h1 hc⟩
theorem RdAll.snoc {led : List (Addr × Obj)} {v : Value} {d : PyData} {vs : List Value} {ds : List PyData} (x : RdIn led v d) (y : RdAll led vs ds) : RdAll led (vs ++ [v]) (ds ++ [d]) := fun h H => by
  obtain ⟨a, ha⟩ := x h H
  obtain ⟨b, hb⟩ := y h H
  exact readsAll_snoc ha hb
theorem RdAll.ints {led : List (Addr × Obj)} {vs : List Value} {ns : List Int} (hi : IntsAre vs ns) : RdAll led vs (ns.map PyData.int) := fun _ _ => ⟨_, readsAll_of_ints hi⟩
theorem RdIn.tup {led : List (Addr × Obj)} {tp : Addr} {vs : List Value} {ds : List PyData} (hm : (tp, tupO vs) ∈ led) (x : RdAll led vs ds) : RdIn led (.ref tp) (.tuple ds) := fun h H => by
  obtain ⟨a, ha⟩ := x h H
  exact ⟨_, .tuple (H _ hm) rfl rfl (by simpa using ha)⟩
theorem RdIn.lst {led : List (Addr × Obj)} {l : Addr} {n : Nat} {vs : List Value} {ds : List PyData} (hm : (l, listOf vs.toArray n) ∈ led) (x : RdAll led vs ds) : RdIn led (.ref l) (.list ds) := fun h H => by
  obtain ⟨a, ha⟩ := x h H
  exact ⟨_, .list (H _ hm) rfl rfl (by simpa using ha)⟩
/-- grown by new objects alone -/
inductive Ext (led : List (Addr × Obj)) : List (Addr × Obj) → List (Addr × Obj) → Prop where
  | refl : Ext led led []
  | cons {a : Addr} {o : Obj} {led' fr : List (Addr × Obj)} : (∀ p ∈ led, p.1 ≠ a) → Ext led led' fr → Ext led ((a, o) :: led') ((a, o) :: fr)
def Apart (fr led : List (Addr × Obj)) : Prop := ∀ q ∈ fr, ∀ p ∈ led, p.1 ≠ q.1
theorem Ext.split {led led' fr : List (Addr × Obj)} (x : Ext led led' fr) : led' = fr ++ led ∧ Apart fr led := by
  induction x with
  | refl => exact ⟨rfl, fun q h => nomatch h⟩
  | cons h _ ih =>
    obtain ⟨e, k⟩ := ih
    exact ⟨by rw [e]; rfl, fun q hq => by
      rcases List.mem_cons.mp hq with rfl | hq
      · exact h
      · exact k q hq⟩
theorem Apart.sub {fr led led' : List (Addr × Obj)} (x : Apart fr led) (k : ∀ p ∈ led', p ∈ led) : Apart fr led' := fun q hq p hp => x q hq p (k p hp)
theorem Apart.app {fr fr' led : List (Addr × Obj)} (x : Apart fr led) (y : Apart fr' led) : Apart (fr ++ fr') led := fun q hq => (List.mem_append.mp hq).elim (x q) (y q)
section
open PyProof.Rows.LCg
variable {prog : Program} {w : World} {A : Around} {E : Value → Shared → Prop} {s : Shared} {h₀ : Heap} {L : Addr} {m : Str → Option Value} {env : Env}
/-- the turns of a comprehension, from an invariant -/
theorem comp_fold {elt : PySem.Expr} {x : Str} {scope : Scope} {cl : List (Str × Addr)} {S : List (Addr × Obj) → Prop} {P : Nat → Value → Prop} {Fin : List Value → List (Addr × Obj) → Prop} {n : Nat} (Inv : Nat → List Value → List (Addr × Obj) → Prop)
    (turn : ∀ i ys nx v I oI C oC D m₂ h tk E', i < n → Inv i ys nx → P i v → NsObj oC m₂ → m₂ x = some v → Fr h₀ L h m → News h₀ L h ((I, oI) :: (C, oC) :: (D, lst ys) :: nx) → Off3 I C D nx → ((@Ne Nat I C) ∧ (@Ne Nat I D) ∧ (@Ne Nat C D)) →
      wpAny (model prog w) A (eval elt (compEnvC scope cl C env)) (CompEnd h₀ L m { s with heap := h, toks := tk } I oI C oC D (lst ys) S (fun y nx' => Inv (i + 1) (ys ++ [y]) nx')) E' { s with heap := h, toks := tk })
    (fin : ∀ ys nx, Inv n ys nx → Fin ys nx) : ∀ k i ys nx, i + k = n → Inv i ys nx → CompRest prog w A h₀ L m env elt x scope cl s S P Fin k i ys nx
  | 0, i, ys, nx, e, hi => fin ys nx (by rw [← e]; exact hi)
  | k + 1, i, ys, nx, e, hi => CompRest.succ fun v I oI C oC D m₂ h tk E' hP hC hx F N off ne =>
    wpAny_mono (turn i ys nx v I oI C oC D m₂ h tk E' (by omega) hi hP hC hx F N off ne) (fun y s₂ hc => by
      obtain ⟨h', tk', nx', e1, F', N', o', S', r⟩ := hc
      exact ⟨h', tk', nx', e1, F', N', o', S', comp_fold Inv turn fin k (i + 1) (ys ++ [y]) nx' (by omega) r⟩) fun _ _ e => e
/-- a comprehension over a made tuple -/
def SrcT (prog : Program) (w : World) (A : Around) (h₀ : Heap) (L : Addr) (m : Str → Option Value) (env : Env) (elt : PySem.Expr) (x : Str) (scope : Scope) (cl : List (Str × Addr)) (Fin : Shared → List Value → List (Addr × Obj) → Prop) (xv : Value) (s₁ : Shared) : Prop :=
  ∃ (ax : Addr) (vs : List Value) (news : List (Addr × Obj)), xv = .ref ax ∧ A.handled = none ∧ Fr h₀ L s₁.heap m ∧ News h₀ L s₁.heap news ∧ (ax, tupO vs) ∈ news ∧ vs.length ≤ sizeLine ∧
    ∀ g, CompRest prog w A h₀ L m env elt x scope cl { s₁ with heap := g } (fun nx => (ax, tupO vs) ∈ nx) (fun i v => vs.toArray[i]? = some v) (Fin { s₁ with heap := g }) vs.toArray.size 0 [] news
theorem ListComp_T {elt iter : PySem.Expr} {x : Str} {px : Pos} {scope : Scope} {cl : List (Str × Addr)} {pos : Pos} {Q : Value → Shared → Prop} (_F₀ : Fr h₀ L s.heap m)
    (hclos : closureFor scope env = pure cl) (hcell : ∀ y ∈ scope.names, y.2 ≠ .cell) (hkind : scope.kind = .function)
    (hnames : ∀ y ∈ scope.names, y.2 = .local → scope.names.lookup y.1 = some .local) (hx : scope.names.lookup x = some .local)
    (h : wpAny (model prog w) A (eval iter env) (SrcT prog w A h₀ L m env elt x scope cl (fun s₂ => FinE h₀ L m s₂ Q)) E s)
    (hs : ∀ x, foldedSetIterable iter env x = pure x := by intro _; rfl) :
    wpAny (model prog w) A (eval (.ListComp elt [⟨.Name x px, iter, [], 0⟩] scope pos) env) Q E s := by
  rw [eval_ListComp]
  refine wpAny_comprehension_free (use := none) rfl hs hclos hkind hnames (wpAny_mono h (fun xv s₁ h₁ => ?_) fun _ _ e => e)
  obtain ⟨ax, vs, news, rfl, hh, F, N, hm, hsz, R⟩ := h₁
  have ht : s₁.heap.IsTuple ax vs.toArray := ⟨_, N.get hm, rfl, _, rfl⟩
  have hlt : ax < s₁.heap.objs.size := Heap.lt_size (N.get hm)
  refine wpAny_pyIter_tuple ht ?_
  have up : ∀ o : Obj, ∀ b ob, s₁.heap.get? b = some ob → (s₁.heap.push o).get? b = some ob := fun o b ob e => Heap.get?_push_of_some _ e
  have W := Walks.tuple (prog := prog) (w := w) hh s₁.heap.objs.size ax (Nat.ne_of_lt hlt) vs.toArray
  refine block_U (S := fun nx => (ax, tupO vs) ∈ nx) W hsz (fun i h st => by obtain ⟨o, e, _⟩ := st.1; exact ⟨o, e⟩) ?_ hcell hkind hx ⟨⟨_, Heap.get?_push_size _ rfl, rfl, rfl⟩, ht.at (up _ ax)⟩ (fun b hb => ?_)
    (F.keeps (up _)) (N.grown (up _)) (Nat.ne_of_lt F.ns.lt) (next_is_new F) (fun p hp => Nat.ne_of_lt (Heap.lt_size (N p hp).1)) hm (R _) ?_
  · intro i h h' o nw st e e' k N' S'
    refine ⟨?_, ⟨_, N'.get S', rfl, _, rfl⟩⟩
    obtain ⟨o', q, r⟩ := st.1
    rw [e] at q; cases q
    exact ⟨o, e', r⟩
  · show b < (s₁.heap.push _).objs.size
    rw [Heap.size_push]
    rcases List.mem_cons.mp hb with rfl | hb
    · exact Nat.lt_succ_self _
    · rw [List.mem_singleton.mp hb]; exact Nat.lt_succ_of_lt hlt
  · intro D C h tk m' ys news' F' N' o1 hn hC₀ hD₀ hCL hDL hCD offC fin
    refine ⟨m', hn, fun h'' hs'' => fin D h'' tk (F'.change hs'' hCL hC₀) (fun p hp => ?_) o1⟩
    refine ⟨hs''.extBut _ _ ?_ (N' p hp).1, (N' p hp).2⟩
    rcases List.mem_cons.mp hp with rfl | hp
    · exact Ne.symm hCD
    · exact offC p hp
end
set_option maxHeartbeats 8000000 in
theorem dlist_nil (w : World) {it : Addr} {dd : Int} {t : Tok} {led : List (Addr × Obj)} (hl : (it, listOf #[] 0) ∈ led) : Say prog w (hd.heap_1 w.params) 483 [.ref it, .int dd t] led 5 60 (fun v led' => ∃ tp, v = .ref tp ∧ led' = (tp, tupO []) :: led ∧ ∀ p ∈ led, p.1 ≠ tp) := by
  refine say_in ?_
  intro p loose mean mg mb dp un gd cn cs a ccd cl outer A₀ base h₀ L m hp₀ gn₀ dr₀ tk₀ os₀ Q E B F X N T hk hd hu hret
  w_on
  refine wpAny_call ?_
  k_dflt (refine' code_defC ?k1 ?k2 ?k3 ?k4 ?k5 ?kA ?kF ?kK ?k6 ?k7 ?k8 ?k9 ?kB ?kD ?_ ?c2 ?c3 ?c4; (case kA => exact rfl); (case kF => exact rfl); (case kK => assumption); (case k1 => k_asm); (case k2 => k_asm); (case k3 => k_asm); (case k4 => k_asm); (case k5 => k_asm); (case k6 => k_is); (case k7 => k_is); (case k8 => k_room); (case k9 => first | exact BindsTo.of_eq rfl | exact binds_K (by k_in) rfl (by k_is) rfl rfl rfl); (case kB => exact rfl); (case kD => decide +kernel); (case c2 => exact rfl); (case c3 => exact rfl); (case c4 => exact rfl); k_whole; intro g' L' h' tk' cells' FG' F' N' Y' B' X' T' l1; (try k_lt l1); k_cells Y'; (try simp only [List.cons_append, List.nil_append] at N'); (try dsimp only); (try k_lift B'); (try k_fold))
  repeat' (first
    | (k_unfold; (try dsimp only))
    | (k_end; wrow_close)
    | ((fail_if_success (with_reducible show wpAny _ _ _ _ _ _)); with_reducible (((unfold LCg.FinE); intro D' h' tk' F' N' o1'; (try simp only [LCg.Off1, and_true] at o1'); (try (have o9' := o1'; repeat (replace o9' := And.right o9'))); (try simp only [List.nil_append, List.cons_append] at N'); (try dsimp only))))
    | ((fail_if_success (with_reducible show wpAny _ _ _ _ _ _)); with_reducible (k_dflt (first | (refine' comp_end0 ?F_21_6 ?N_21_6 ?o_21_6 ?S_21_6 ?_; (case F_21_6 => k_asm); (case N_21_6 => with_reducible assumption); (case o_21_6 => assumption); (case S_21_6 => ((try dsimp only); k_mem)); (try dsimp only)) | (refine' comp_end1 ?F_21_6 ?N_21_6 ?o_21_6 ?a_21_6 ?b_21_6 ?c_21_6 ?S_21_6 ?_; (case F_21_6 => k_asm); (case N_21_6 => with_reducible assumption); (case o_21_6 => assumption); (case a_21_6 => omega); (case b_21_6 => omega); (case c_21_6 => omega); (case S_21_6 => ((try dsimp only); k_mem)); (try dsimp only)))))
    | ((fail_if_success (with_reducible show wpAny _ _ _ _ _ _)); with_reducible (k_dflt (refine' ⟨_, _, _, ?a_21_5, ?b_21_5, ?k1_21_5, ?k2_21_5, ?m_21_5, ?z_21_5, ?_⟩; (case a_21_5 => exact rfl); (case b_21_5 => exact rfl); (case k1_21_5 => k_asm); (case k2_21_5 => k_asm); (case m_21_5 => k_mem); (case z_21_5 => exact Nat.le_of_ble_eq_true rfl); intro g')))
    | ((with_reducible show wpAny _ _ (eval (Expr.ListComp _ _ _ _) _) _ _ _); with_reducible ((k_here; k_dflt (refine' ListComp_T (iter := PySem.Expr.Tuple _ _ _) ?k1_21_4 ?a_21_4 ?b_21_4 ?c_21_4 ?d_21_4 ?e_21_4 ?_; (case k1_21_4 => k_asm); (case a_21_4 => with_unfolding_all rfl); (case b_21_4 => decide); (case c_21_4 => rfl); (case d_21_4 => decide); (case e_21_4 => rfl)))))
    | ((with_reducible show wpAny _ _ (call _ _) _ _ _); (try k_fold); with_reducible ((k_here; (with_reducible show wpAny _ _ (call (Value.ref 483) [Value.ref _, Value.int _ _]) _ _ _); k_dflt (refine' dlist_nil_use ?kl_21_3 ?k1_21_3 ?k2_21_3 ?k3_21_3 ?k4_21_3 ?k5_21_3 ?kK_21_3 ?kd_21_3 ?ku_21_3 ?_; (case k1_21_3 => k_asm); (case k2_21_3 => k_asm); (case k3_21_3 => k_asm); (case k4_21_3 => k_asm); (case k5_21_3 => k_asm); (case kK_21_3 => first | exact rfl | assumption); (case kd_21_3 => k_room); (case ku_21_3 => k_units); (case kl_21_3 => k_mem); k_whole); intro tp' h' tk' o' F' N'; (try (have o9' := o'; repeat (replace o9' := (List.forall_mem_cons.mp o9').2))); (try k_sweep))))
    | ((fail_if_success (with_reducible show wpAny _ _ _ _ _ _)); with_reducible ((k_here; k_dflt (refine' LCg.CompSrc.ledger (its := #[]) ?a_21_0 ?F_21_0 ?N_21_0 ?m_21_0 ?z_21_0 ?_; (case a_21_0 => exact rfl); (case F_21_0 => k_asm); (case N_21_0 => k_asm); (case m_21_0 => k_mem); (case z_21_0 => exact Nat.zero_le _)); (intro g'); (with_unfolding_all refine LCg.CompRest.zero ?_))))
    | ((fail_if_success (with_reducible show wpAny _ _ _ _ _ _)); with_reducible ((k_dflt (refine' ⟨_, _, ?a_08_11, ?b_08_11, ?c_08_11, ?d_08_11⟩; (case a_08_11 => exact rfl); (case c_08_11 => assumption); (case d_08_11 => assumption); (case b_08_11 => first | exact bm_t (by with_reducible assumption) rfl | exact bm_3 (by with_reducible assumption) (by with_reducible assumption) (by with_reducible assumption) | exact bm_4 (by with_reducible assumption) (by with_reducible assumption) (by with_reducible assumption) (by with_reducible assumption) | (simp only [decide_eq_false_iff_not, decide_eq_true_eq, eq_comm]; omega))))))
    | ((with_reducible show wpAny _ _ (PySem.isTrue (Expr.BoolOp _ _ _) _ _) _ _ _); with_reducible ((k_here; (fail_if_success (with_reducible show wpAny _ _ _ (BMid _ _ _ _ _ _) _ _)); (with_reducible show wpAny _ _ (PySem.isTrue (Expr.BoolOp _ (Expr.Compare _ _ [Expr.Name (Str.ofString "HBOX") _] _ :: _) _) _ _) _ _ _); focus ((first | ((with_reducible show wpAny _ _ (PySem.isTrue (Expr.BoolOp _ [_, _, _, _] _) _ _) _ _ _); refine' bool_cut4 ?kn_08_10 ?k1_08_10 ?k2_08_10 ?_ ?_) | ((with_reducible show wpAny _ _ (PySem.isTrue (Expr.BoolOp _ [_, _, _] _) _ _) _ _ _); refine' bool_cut3 ?kn_08_10 ?k1_08_10 ?k2_08_10 ?_ ?_) | ((with_reducible show wpAny _ _ (PySem.isTrue (Expr.BoolOp _ [_, _] _) _ _) _ _ _); refine' bool_cut3 ?kn_08_10 ?k1_08_10 ?k2_08_10 ?_ ?_)); (case kn_08_10 => with_reducible assumption); (case k1_08_10 => k_asm); (case k2_08_10 => k_asm); (intro h' tk' F' N'; (try k_sweep))))))
    | ((with_reducible show wpAny _ _ (getAttr _ _ _) _ _ _); (fail_if_success (with_reducible show wpAny _ _ (getAttr (Value.ref _) _ _) _ _ _)); (try k_fold); first
      | with_reducible ((k_here; (with_reducible show wpAny _ _ (getAttr _ (Str.ofString "shift") _) _ _ _); k_dflt (refine' shift_get ?k1_08_8 ?k2_08_8 ?k3_08_8 ?k4_08_8 ?k5_08_8 ?k6_08_8 ?_; (case k1_08_8 => with_reducible assumption); (case k3_08_8 => k_asm); (case k4_08_8 => k_asm); (case k5_08_8 => k_asm); (case k6_08_8 => first | with_reducible assumption | exact kind_le3 (by with_reducible assumption) rfl); (case k2_08_8 => first | with_reducible assumption | (intro p9 hp9; (with_reducible rename ∀ p ∈ _, p ∈ _ => hs9); (have h9 := hs9 p9 hp9); k_qdec)); k_whole); intro t' k'))
      | with_reducible ((k_here; (with_reducible show wpAny _ _ (getAttr _ (Str.ofString "width") _) _ _ _); k_dflt (refine' width_get ?k1_08_7 ?k2_08_7 ?k3_08_7 ?k4_08_7 ?k5_08_7 ?k6_08_7 ?_; (case k1_08_7 => with_reducible assumption); (case k3_08_7 => k_asm); (case k4_08_7 => k_asm); (case k5_08_7 => k_asm); (case k6_08_7 => first | with_reducible assumption | exact kind_le3 (by with_reducible assumption) rfl); (case k2_08_7 => first | with_reducible assumption | (intro p9 hp9; (with_reducible rename ∀ p ∈ _, p ∈ _ => hs9); (have h9 := hs9 p9 hp9); k_qdec)); k_whole); intro t' k'))
      | with_reducible ((k_here; (with_reducible show wpAny _ _ (getAttr _ (Str.ofString "depth") _) _ _ _); k_dflt (refine' depth_get ?k1_08_6 ?k2_08_6 ?k3_08_6 ?k4_08_6 ?k5_08_6 ?k6_08_6 ?_; (case k1_08_6 => with_reducible assumption); (case k3_08_6 => k_asm); (case k4_08_6 => k_asm); (case k5_08_6 => k_asm); (case k6_08_6 => first | with_reducible assumption | exact kind_34 (by with_reducible assumption) | exact kind_le4 (by with_reducible assumption) rfl); (case k2_08_6 => first | with_reducible assumption | (intro p9 hp9; (with_reducible rename ∀ p ∈ _, p ∈ _ => hs9); (have h9 := hs9 p9 hp9); k_qdec)); k_whole); intro t' k'))
      | with_reducible ((k_here; (with_reducible show wpAny _ _ (getAttr _ (Str.ofString "height") _) _ _ _); k_dflt (refine' height_get ?k1_08_5 ?k2_08_5 ?k3_08_5 ?k4_08_5 ?k5_08_5 ?k6_08_5 ?_; (case k1_08_5 => with_reducible assumption); (case k3_08_5 => k_asm); (case k4_08_5 => k_asm); (case k5_08_5 => k_asm); (case k6_08_5 => first | with_reducible assumption | exact kind_34 (by with_reducible assumption) | exact kind_le4 (by with_reducible assumption) rfl); (case k2_08_5 => first | with_reducible assumption | (intro p9 hp9; (with_reducible rename ∀ p ∈ _, p ∈ _ => hs9); (have h9 := hs9 p9 hp9); k_qdec)); k_whole); intro t' k'))
      | with_reducible ((k_here; (with_reducible show wpAny _ _ (getAttr _ (Str.ofString "kind") _) _ _ _); k_dflt (refine' kind_get ?k1_08_4 ?k2_08_4 ?k3_08_4 ?k4_08_4 ?k5_08_4 ?_; (case k1_08_4 => with_reducible assumption); (case k3_08_4 => k_asm); (case k4_08_4 => k_asm); (case k5_08_4 => k_asm); (case k2_08_4 => first | with_reducible assumption | (intro p9 hp9; (with_reducible rename ∀ p ∈ _, p ∈ _ => hs9); (have h9 := hs9 p9 hp9); k_mem)); k_whole); intro t' k'))
      | with_reducible ((k_here; (with_reducible rename NodeAt _ _ _ _ => hN9); (with_reducible rename ∀ p ∈ _, p ∈ _ => hs9); (have hNc := hN9); (have hsc := hs9); (first | induction hN9 | cases hN9) <;> first | exact absurd_kind (by with_reducible assumption) rfl | exact absurd_le (by with_reducible assumption) rfl | exact absurd_box (by with_reducible assumption) (by with_reducible assumption) rfl | exact absurd_nle (by with_reducible assumption) (by with_reducible assumption) | (exfalso; simp only [kindF] at *; omega) | (simp only [List.forall_mem_cons] at hs9; obtain ⟨m1', m2', m3'⟩ := hs9; (try (obtain ⟨m4', m5', -⟩ := m3'))))))
    | ((with_reducible show wpAny _ _ (eval (Expr.Name _ _) _) _ _ _); with_reducible (k_dflt (first | ((with_reducible show wpAny _ _ (eval (Expr.Name _ _) (envOf _ _ _ _ _)) _ _ _); first | (refine' ld ?k1_08_2 ?k2_08_2 ?_ (hk := rfl) (hl := ?kl_08_2) (hd := ?kd_08_2); (case kl_08_2 => kernel_rfl); (case k1_08_2 => with_reducible assumption); (case k2_08_2 => exact rfl); (case kd_08_2 => decide +kernel)) | (refine' name_K ?kF_08_2 ?k1_08_2 ?k2_08_2 ?k3_08_2 ?_ (hk := rfl) (hx := ?kl_08_2) (hd := ?kd_08_2); (case kF_08_2 => with_reducible assumption); (case k1_08_2 => with_reducible assumption); (case k2_08_2 => k_asm); (case k3_08_2 => k_is); (case kl_08_2 => kernel_rfl); (case kd_08_2 => decide +kernel); k_whole)))))
    | ((with_reducible show ite _ _ _); first
      | with_reducible ((k_closed; k_dflt (first | refine ite_pos (by decide) ?_ | refine ite_neg (by decide) ?_)))
      | with_reducible ((k_here; k_openite; k_spoken; first | (refine ite_pos (by first | omega | (simp only [decide_eq_true_eq, beq_iff_eq, bne_iff_ne, ne_eq]; omega)) ?_; walk_say "DECIDED") | (refine ite_neg (by first | omega | (simp only [decide_eq_true_eq, beq_iff_eq, bne_iff_ne, ne_eq]; omega)) ?_; walk_say "DECIDED"))))
    | walk1
    | (dsimp only; walk1)
    | (leave1; walk_say "STEP leave1"; try dsimp only)
    | fail "no step")
  all_goals exact hret _ _ _ _ (by k_asm) (cb_drop (by k_asm) (by kcf_all)) ⟨_, rfl, rfl, allLt_ne (by assumption)⟩
theorem dlist_nil_use {w : World} {it : Addr} {dd : Int} {t : Tok} {led : List (Addr × Obj)} {p : Program} {loose : List Str} {mean : ExcName → Option Value} {mg mb : Str → Option Value} {dp un : Nat} {gd : Option (List Code)} {cn : Str} {cs : Scope} {ad : Addr} {ccd : Value} {cl : List (Str × Addr)} {outer : List Env} {A₀ : Around} {base h₀ : Heap} {L : Addr} {m : Str → Option Value} {hp₁ : Heap} {gn₁ : Array GenState} {dr₁ : Drawn} {tk₁ : Nat} {os₁ : OsState}
    {Q E : Value → Shared → Prop} (hl : (it, listOf #[] 0) ∈ led) (B : Below A₀ base outer h₀) (F : Fr h₀ L hp₁ m) (X : (hd.heap_1 w.params).In h₀) (N : News h₀ L hp₁ led) (T : Top p loose mean mg mb h₀) (hk : cs.kind = .function)
    (hd : dp + 5 < recursionLimit) (hu : un + 60 < cLine)
    (ret : ∀ tp h' tk', (∀ p ∈ led, p.1 ≠ tp) → Fr h₀ L h' m → News h₀ L h' ((tp, tupO []) :: led) → Q (.ref tp) (.mk h' gn₁ dr₁ tk' os₁)) :
    wpAny (model prog w) (ktrTop dp un gd cn cs L ad ccd cl outer) (call (.ref 483) [.ref it, .int dd t]) Q E (.mk hp₁ gn₁ dr₁ tk₁ os₁) := by
  refine dlist_nil w hl p loose mean mg mb dp un gd cn cs ad ccd cl outer A₀ base h₀ L m (.mk hp₁ gn₁ dr₁ tk₁ os₁) Q E B F X N T hk hd hu ?_
  rintro v led' h' tk' F' N' ⟨tp, rfl, rfl, o⟩
  exact ret tp h' tk' o F' N'
section
open PyProof.Rows.LCg
variable {h₀ : Heap} {L I C D : Addr} {m : Str → Option Value} {s₁ : Shared} {oI oC oD : Obj} {S : List (Addr × Obj) → Prop} {rest : Value → List (Addr × Obj) → Prop} {y : Value} {h' : Heap} {tk : Nat} {nx : List (Addr × Obj)}
theorem comp_end0 (F : Fr h₀ L h' m) (N : News h₀ L h' ((I, oI) :: (C, oC) :: (D, oD) :: nx)) (off : Off3 I C D nx) (hS : S nx) (r : rest y nx) : CompEnd h₀ L m s₁ I oI C oC D oD S rest y { s₁ with heap := h', toks := tk } := .intro F N nx (fun _ h => h) off hS r
theorem comp_end1 {a : Addr} {o : Obj} (F : Fr h₀ L h' m) (N : News h₀ L h' ((a, o) :: (I, oI) :: (C, oC) :: (D, oD) :: nx)) (off : Off3 I C D nx) (hi : @Ne Nat a I) (hc : @Ne Nat a C) (hd : @Ne Nat a D) (hS : S ((a, o) :: nx)) (r : rest y ((a, o) :: nx)) :
    CompEnd h₀ L m s₁ I oI C oC D oD S rest y { s₁ with heap := h', toks := tk } :=
  .intro F N ((a, o) :: nx) (fun p hp => by
    rcases List.mem_cons.mp hp with rfl | hp
    · simp
    · rcases List.mem_cons.mp hp with rfl | hp
      · simp
      · rcases List.mem_cons.mp hp with rfl | hp
        · simp
        · rcases List.mem_cons.mp hp with rfl | hp
          · simp
          · simp [hp]) ⟨⟨hi, hc, hd⟩, off⟩ hS r
theorem comp_endA {new : List (Addr × Obj)} (F : Fr h₀ L h' m) (N : News h₀ L h' (new ++ (I, oI) :: (C, oC) :: (D, oD) :: nx)) (off : Off3 I C D nx) (hn : ∀ q ∈ new, ∀ p ∈ (I, oI) :: (C, oC) :: (D, oD) :: nx, p.1 ≠ q.1) (hS : S (new ++ nx)) (r : rest y (new ++ nx)) :
    CompEnd h₀ L m s₁ I oI C oC D oD S rest y { s₁ with heap := h', toks := tk } :=
  .intro F N (new ++ nx) (fun p hp => by
    rcases List.mem_cons.mp hp with rfl | hp
    · simp
    · rcases List.mem_cons.mp hp with rfl | hp
      · simp
      · rcases List.mem_cons.mp hp with rfl | hp
        · simp
        · rcases List.mem_append.mp hp with hp | hp <;> simp [hp]) (Off3.of fun p hp => by
    rcases List.mem_append.mp hp with hp | hp
    · exact ⟨(hn p hp (I, oI) (by simp)).symm, (hn p hp (C, oC) (by simp)).symm, (hn p hp (D, oD) (by simp)).symm⟩
    · exact off.mem p hp) hS r
theorem off1_ne {d : Addr} {l : List (Addr × Obj)} (x : Off1 d l) : ∀ p ∈ l, p.1 ≠ d := by
  induction l with
  | nil => intro p h; cases h
  | cons q r ih =>
    intro p h
    cases h with
    | head => exact x.1
    | tail _ h => exact ih x.2 p h
end
local macro_rules | `(tactic| k_all) => `(tactic| exact off1_ne (by with_reducible assumption))
def descD : Nd → PyData
  | .box k wd h d sh => .tuple [.int k, .int wd, .int h, .int d, .int sh, .int 0, .int 0, .tuple [.int 0, .int 1], .tuple []]
  | .rule true h d => .tuple [.int 4, .tuple [.int 7], .tuple [.int h], .tuple [.int d]]
  | .rule false h d => .tuple [.int 4, .tuple [], .tuple [.int h], .tuple [.int d]]
  | .kern wd => .tuple [.int 5, .int wd, .int 1]
  | .pen v => .tuple [.int 7, .int v]
  | .mark => .tuple [.int 9, .tuple [.tuple [.int 11, .int 97]]]
  | .skip wd st so sk ko => .tuple [.int 6, .tuple [.int wd, .int st, .int so, .int sk, .int ko], .int 0, .tuple []]
abbrev DescOut (led nl : List (Addr × Obj)) (d : PyData) (v : Value) (led' : List (Addr × Obj)) : Prop := ∃ tp, v = .ref tp ∧ ∃ fr, Ext led led' fr ∧ RdIn (fr ++ nl) (.ref tp) d
theorem ext_step {led led' : List (Addr × Obj)} {a : Addr} {o : Obj} {P : List (Addr × Obj) → Prop} (h : ∀ p ∈ led, p.1 ≠ a) (k : ∃ fr, Ext led led' fr ∧ P ((a, o) :: fr)) : ∃ fr, Ext led ((a, o) :: led') fr ∧ P fr := by
  obtain ⟨fr, x, r⟩ := k
  exact ⟨_, .cons h x, r⟩
theorem ext_last {led : List (Addr × Obj)} {P : List (Addr × Obj) → Prop} (k : P []) : ∃ fr, Ext led led fr ∧ P fr := ⟨[], .refl, k⟩
set_option maxHeartbeats 8000000 in
theorem desc_ (w : World) {v : Value} {nd : Nd} {new led : List (Addr × Obj)} {dd : Int} {t : Tok} (hN : NodeAt w.params v nd new) (hs : ∀ p ∈ new, p ∈ led) (h60 : dd ≤ 60) :
    Say prog w (hd.heap_1 w.params) 477 [v, .int dd t] led 8 90 (DescOut led new (descD nd)) := by
  refine say_in ?_
  intro p loose mean mg mb dp un gd cn cs a ccd cl outer A₀ base h₀ L m hp₀ gn₀ dr₀ tk₀ os₀ Q E B F X N T hk hd hu hret
  obtain ⟨n1, n2, n3⟩ := kind_in hN
  w_on
  refine wpAny_call ?_
  k_dflt ktr_enter
  repeat' (first
    | (k_unfold; (try dsimp only))
    | (k_end; wrow_close)
    | ((fail_if_success (with_reducible show wpAny _ _ _ _ _ _)); with_reducible (((unfold LCg.FinE); intro D' h' tk' F' N' o1'; (try simp only [LCg.Off1, and_true] at o1'); (try (have o9' := o1'; repeat (replace o9' := And.right o9'))); (try simp only [List.nil_append, List.cons_append] at N'); (try dsimp only))))
    | ((fail_if_success (with_reducible show wpAny _ _ _ _ _ _)); with_reducible (k_dflt (first | (refine' comp_end0 ?F_21_6 ?N_21_6 ?o_21_6 ?S_21_6 ?_; (case F_21_6 => k_asm); (case N_21_6 => with_reducible assumption); (case o_21_6 => assumption); (case S_21_6 => ((try dsimp only); k_mem)); (try dsimp only)) | (refine' comp_end1 ?F_21_6 ?N_21_6 ?o_21_6 ?a_21_6 ?b_21_6 ?c_21_6 ?S_21_6 ?_; (case F_21_6 => k_asm); (case N_21_6 => with_reducible assumption); (case o_21_6 => assumption); (case a_21_6 => omega); (case b_21_6 => omega); (case c_21_6 => omega); (case S_21_6 => ((try dsimp only); k_mem)); (try dsimp only)))))
    | ((fail_if_success (with_reducible show wpAny _ _ _ _ _ _)); with_reducible (k_dflt (refine' ⟨_, _, _, ?a_21_5, ?b_21_5, ?k1_21_5, ?k2_21_5, ?m_21_5, ?z_21_5, ?_⟩; (case a_21_5 => exact rfl); (case b_21_5 => exact rfl); (case k1_21_5 => k_asm); (case k2_21_5 => k_asm); (case m_21_5 => k_mem); (case z_21_5 => exact Nat.le_of_ble_eq_true rfl); intro g')))
    | ((with_reducible show wpAny _ _ (eval (Expr.ListComp _ _ _ _) _) _ _ _); with_reducible ((k_here; k_dflt (refine' ListComp_T (iter := PySem.Expr.Tuple _ _ _) ?k1_21_4 ?a_21_4 ?b_21_4 ?c_21_4 ?d_21_4 ?e_21_4 ?_; (case k1_21_4 => k_asm); (case a_21_4 => with_unfolding_all rfl); (case b_21_4 => decide); (case c_21_4 => rfl); (case d_21_4 => decide); (case e_21_4 => rfl)))))
    | ((with_reducible show wpAny _ _ (call _ _) _ _ _); (try k_fold); with_reducible ((k_here; (with_reducible show wpAny _ _ (call (Value.ref 483) [Value.ref _, Value.int _ _]) _ _ _); k_dflt (refine' dlist_nil_use ?kl_21_3 ?k1_21_3 ?k2_21_3 ?k3_21_3 ?k4_21_3 ?k5_21_3 ?kK_21_3 ?kd_21_3 ?ku_21_3 ?_; (case k1_21_3 => k_asm); (case k2_21_3 => k_asm); (case k3_21_3 => k_asm); (case k4_21_3 => k_asm); (case k5_21_3 => k_asm); (case kK_21_3 => first | exact rfl | assumption); (case kd_21_3 => k_room); (case ku_21_3 => k_units); (case kl_21_3 => k_mem); k_whole); intro tp' h' tk' o' F' N'; (try (have o9' := o'; repeat (replace o9' := (List.forall_mem_cons.mp o9').2))); (try k_sweep))))
    | ((fail_if_success (with_reducible show wpAny _ _ _ _ _ _)); with_reducible ((k_here; k_dflt (refine' LCg.CompSrc.ledger (its := #[]) ?a_21_0 ?F_21_0 ?N_21_0 ?m_21_0 ?z_21_0 ?_; (case a_21_0 => exact rfl); (case F_21_0 => k_asm); (case N_21_0 => k_asm); (case m_21_0 => k_mem); (case z_21_0 => exact Nat.zero_le _)); (intro g'); (with_unfolding_all refine LCg.CompRest.zero ?_))))
    | ((fail_if_success (with_reducible show wpAny _ _ _ _ _ _)); with_reducible ((k_dflt (refine' ⟨_, _, ?a_08_11, ?b_08_11, ?c_08_11, ?d_08_11⟩; (case a_08_11 => exact rfl); (case c_08_11 => assumption); (case d_08_11 => assumption); (case b_08_11 => first | exact bm_t (by with_reducible assumption) rfl | exact bm_3 (by with_reducible assumption) (by with_reducible assumption) (by with_reducible assumption) | exact bm_4 (by with_reducible assumption) (by with_reducible assumption) (by with_reducible assumption) (by with_reducible assumption) | (simp only [decide_eq_false_iff_not, decide_eq_true_eq, eq_comm]; omega))))))
    | ((with_reducible show wpAny _ _ (PySem.isTrue (Expr.BoolOp _ _ _) _ _) _ _ _); with_reducible ((k_here; (fail_if_success (with_reducible show wpAny _ _ _ (BMid _ _ _ _ _ _) _ _)); (with_reducible show wpAny _ _ (PySem.isTrue (Expr.BoolOp _ (Expr.Compare _ _ [Expr.Name (Str.ofString "HBOX") _] _ :: _) _) _ _) _ _ _); focus ((first | ((with_reducible show wpAny _ _ (PySem.isTrue (Expr.BoolOp _ [_, _, _, _] _) _ _) _ _ _); refine' bool_cut4 ?kn_08_10 ?k1_08_10 ?k2_08_10 ?_ ?_) | ((with_reducible show wpAny _ _ (PySem.isTrue (Expr.BoolOp _ [_, _, _] _) _ _) _ _ _); refine' bool_cut3 ?kn_08_10 ?k1_08_10 ?k2_08_10 ?_ ?_) | ((with_reducible show wpAny _ _ (PySem.isTrue (Expr.BoolOp _ [_, _] _) _ _) _ _ _); refine' bool_cut3 ?kn_08_10 ?k1_08_10 ?k2_08_10 ?_ ?_)); (case kn_08_10 => with_reducible assumption); (case k1_08_10 => k_asm); (case k2_08_10 => k_asm); (intro h' tk' F' N'; (try k_sweep))))))
    | ((with_reducible show wpAny _ _ (getAttr _ _ _) _ _ _); (fail_if_success (with_reducible show wpAny _ _ (getAttr (Value.ref _) _ _) _ _ _)); (try k_fold); first
      | with_reducible ((k_here; (with_reducible show wpAny _ _ (getAttr _ (Str.ofString "shift") _) _ _ _); k_dflt (refine' shift_get ?k1_08_8 ?k2_08_8 ?k3_08_8 ?k4_08_8 ?k5_08_8 ?k6_08_8 ?_; (case k1_08_8 => with_reducible assumption); (case k3_08_8 => k_asm); (case k4_08_8 => k_asm); (case k5_08_8 => k_asm); (case k6_08_8 => first | with_reducible assumption | exact kind_le3 (by with_reducible assumption) rfl); (case k2_08_8 => first | with_reducible assumption | (intro p9 hp9; (with_reducible rename ∀ p ∈ _, p ∈ _ => hs9); (have h9 := hs9 p9 hp9); k_qdec)); k_whole); intro t' k'))
      | with_reducible ((k_here; (with_reducible show wpAny _ _ (getAttr _ (Str.ofString "width") _) _ _ _); k_dflt (refine' width_get ?k1_08_7 ?k2_08_7 ?k3_08_7 ?k4_08_7 ?k5_08_7 ?k6_08_7 ?_; (case k1_08_7 => with_reducible assumption); (case k3_08_7 => k_asm); (case k4_08_7 => k_asm); (case k5_08_7 => k_asm); (case k6_08_7 => first | with_reducible assumption | exact kind_le3 (by with_reducible assumption) rfl); (case k2_08_7 => first | with_reducible assumption | (intro p9 hp9; (with_reducible rename ∀ p ∈ _, p ∈ _ => hs9); (have h9 := hs9 p9 hp9); k_qdec)); k_whole); intro t' k'))
      | with_reducible ((k_here; (with_reducible show wpAny _ _ (getAttr _ (Str.ofString "depth") _) _ _ _); k_dflt (refine' depth_get ?k1_08_6 ?k2_08_6 ?k3_08_6 ?k4_08_6 ?k5_08_6 ?k6_08_6 ?_; (case k1_08_6 => with_reducible assumption); (case k3_08_6 => k_asm); (case k4_08_6 => k_asm); (case k5_08_6 => k_asm); (case k6_08_6 => first | with_reducible assumption | exact kind_34 (by with_reducible assumption) | exact kind_le4 (by with_reducible assumption) rfl); (case k2_08_6 => first | with_reducible assumption | (intro p9 hp9; (with_reducible rename ∀ p ∈ _, p ∈ _ => hs9); (have h9 := hs9 p9 hp9); k_qdec)); k_whole); intro t' k'))
      | with_reducible ((k_here; (with_reducible show wpAny _ _ (getAttr _ (Str.ofString "height") _) _ _ _); k_dflt (refine' height_get ?k1_08_5 ?k2_08_5 ?k3_08_5 ?k4_08_5 ?k5_08_5 ?k6_08_5 ?_; (case k1_08_5 => with_reducible assumption); (case k3_08_5 => k_asm); (case k4_08_5 => k_asm); (case k5_08_5 => k_asm); (case k6_08_5 => first | with_reducible assumption | exact kind_34 (by with_reducible assumption) | exact kind_le4 (by with_reducible assumption) rfl); (case k2_08_5 => first | with_reducible assumption | (intro p9 hp9; (with_reducible rename ∀ p ∈ _, p ∈ _ => hs9); (have h9 := hs9 p9 hp9); k_qdec)); k_whole); intro t' k'))
      | with_reducible ((k_here; (with_reducible show wpAny _ _ (getAttr _ (Str.ofString "kind") _) _ _ _); k_dflt (refine' kind_get ?k1_08_4 ?k2_08_4 ?k3_08_4 ?k4_08_4 ?k5_08_4 ?_; (case k1_08_4 => with_reducible assumption); (case k3_08_4 => k_asm); (case k4_08_4 => k_asm); (case k5_08_4 => k_asm); (case k2_08_4 => first | with_reducible assumption | (intro p9 hp9; (with_reducible rename ∀ p ∈ _, p ∈ _ => hs9); (have h9 := hs9 p9 hp9); k_mem)); k_whole); intro t' k'))
      | with_reducible ((k_here; (with_reducible rename NodeAt _ _ _ _ => hN9); (with_reducible rename ∀ p ∈ _, p ∈ _ => hs9); (have hNc := hN9); (have hsc := hs9); (first | induction hN9 | cases hN9) <;> first | exact absurd_kind (by with_reducible assumption) rfl | exact absurd_le (by with_reducible assumption) rfl | exact absurd_box (by with_reducible assumption) (by with_reducible assumption) rfl | exact absurd_nle (by with_reducible assumption) (by with_reducible assumption) | (exfalso; simp only [kindF] at *; omega) | (simp only [List.forall_mem_cons] at hs9; obtain ⟨m1', m2', m3'⟩ := hs9; (try (obtain ⟨m4', m5', -⟩ := m3'))))))
    | ((with_reducible show wpAny _ _ (eval (Expr.Name _ _) _) _ _ _); with_reducible (k_dflt (first | ((with_reducible show wpAny _ _ (eval (Expr.Name _ _) (envOf _ _ _ _ _)) _ _ _); first | (refine' ld ?k1_08_2 ?k2_08_2 ?_ (hk := rfl) (hl := ?kl_08_2) (hd := ?kd_08_2); (case kl_08_2 => kernel_rfl); (case k1_08_2 => with_reducible assumption); (case k2_08_2 => exact rfl); (case kd_08_2 => decide +kernel)) | (refine' name_K ?kF_08_2 ?k1_08_2 ?k2_08_2 ?k3_08_2 ?_ (hk := rfl) (hx := ?kl_08_2) (hd := ?kd_08_2); (case kF_08_2 => with_reducible assumption); (case k1_08_2 => with_reducible assumption); (case k2_08_2 => k_asm); (case k3_08_2 => k_is); (case kl_08_2 => kernel_rfl); (case kd_08_2 => decide +kernel); k_whole)))))
    | ((with_reducible show ite _ _ _); first
      | with_reducible ((k_closed; k_dflt (first | refine ite_pos (by decide) ?_ | refine ite_neg (by decide) ?_)))
      | with_reducible ((k_here; k_openite; k_spoken; first | (refine ite_pos (by first | omega | (simp only [decide_eq_true_eq, beq_iff_eq, bne_iff_ne, ne_eq]; omega)) ?_; walk_say "DECIDED") | (refine ite_neg (by first | omega | (simp only [decide_eq_true_eq, beq_iff_eq, bne_iff_ne, ne_eq]; omega)) ?_; walk_say "DECIDED"))))
    | walk1
    | (dsimp only; walk1)
    | (leave1; walk_say "STEP leave1"; try dsimp only)
    | fail "no step")
  all_goals
    refine hret _ _ _ _ (by k_asm) (by k_asm) ⟨_, rfl, ?_⟩
    repeat' (first | (refine ext_step ?_ ?_) | (refine ext_last ?_) | (refine allLt_ne ?_; with_reducible assumption) | (refine off1_ne ?_; with_reducible assumption) | with_reducible assumption)
    dsimp only [descD, List.cons_append, List.nil_append]
    repeat' (first | exact RdIn.int | exact RdAll.nil | (refine RdAll.cons ?_ ?_) | (refine RdIn.tup (by k_mem) ?_))
theorem desc_use {w : World} {v : Value} {nd : Nd} {new led : List (Addr × Obj)} {dd : Int} {t : Tok} {p : Program} {loose : List Str} {mean : ExcName → Option Value} {mg mb : Str → Option Value} {dp un : Nat} {gd : Option (List Code)} {cn : Str} {cs : Scope} {ad : Addr} {ccd : Value} {cl : List (Str × Addr)} {outer : List Env} {A₀ : Around} {base h₀ : Heap} {L : Addr} {m : Str → Option Value} {hp₁ : Heap} {gn₁ : Array GenState} {dr₁ : Drawn} {tk₁ : Nat} {os₁ : OsState}
    {Q E : Value → Shared → Prop} (hN : NodeAt w.params v nd new) (hs : ∀ p ∈ new, p ∈ led) (h60 : dd ≤ 60) (B : Below A₀ base outer h₀) (F : Fr h₀ L hp₁ m) (X : (hd.heap_1 w.params).In h₀) (N : News h₀ L hp₁ led) (T : Top p loose mean mg mb h₀) (hk : cs.kind = .function)
    (hd : dp + 8 < recursionLimit) (hu : un + 90 < cLine)
    (ret : ∀ tp fr h' tk', Apart fr led → RdIn (fr ++ new) (.ref tp) (descD nd) → Fr h₀ L h' m → News h₀ L h' (fr ++ led) → Q (.ref tp) (.mk h' gn₁ dr₁ tk' os₁)) :
    wpAny (model prog w) (ktrTop dp un gd cn cs L ad ccd cl outer) (call (.ref 477) [v, .int dd t]) Q E (.mk hp₁ gn₁ dr₁ tk₁ os₁) := by
  refine desc_ w hN hs h60 p loose mean mg mb dp un gd cn cs ad ccd cl outer A₀ base h₀ L m (.mk hp₁ gn₁ dr₁ tk₁ os₁) Q E B F X N T hk hd hu ?_
  rintro v led' h' tk' F' N' ⟨tp, rfl, fr, x, r⟩
  obtain ⟨rfl, o⟩ := x.split
  exact ret tp fr h' tk' o r F' N'
section
open PyProof.Rows.LCg
variable {prog : Program} {w : World} {A : Around} {E : Value → Shared → Prop} {h₀ : Heap} {L : Addr} {m : Str → Option Value} {env : Env}
inductive DlEnd (h₀ : Heap) (L : Addr) (m : Str → Option Value) (s₁ : Shared) (all new : List (Addr × Obj)) (nd : Nd) (y : Value) (s₂ : Shared) : Prop where
  | mk : ∀ tp fr' h' tk', y = .ref tp → s₂ = { s₁ with heap := h', toks := tk' } → Fr h₀ L h' m → News h₀ L h' (fr' ++ all) → Apart fr' all → RdIn (fr' ++ new) (.ref tp) (descD nd) → DlEnd h₀ L m s₁ all new nd y s₂
theorem dl_src {elt : PySem.Expr} {x : Str} {scope : Scope} {cl : List (Str × Addr)} {Q : Value → Shared → Prop} {P : Params} {ax : Addr} {vs : List Value} {k : Nat} {nds : List Nd} {nl led0 : List (Addr × Obj)} {s₁ : Shared}
    (hh : A.handled = none) (F : Fr h₀ L s₁.heap m) (N : News h₀ L s₁.heap led0) (hm : (ax, listOf vs.toArray k) ∈ led0) (h8 : vs.length ≤ 8) (hNs : NodesAt P nl vs nds) (hnl : ∀ p ∈ nl, p ∈ led0)
    (turn : ∀ v nd new fr I oI C oC D ys m₂ h tk E', NodeAt P v nd new → (∀ p ∈ new, p ∈ led0) → NsObj oC m₂ → m₂ x = some v → Fr h₀ L h m → News h₀ L h ((I, oI) :: (C, oC) :: (D, lst ys) :: (fr ++ led0)) → Off3 I C D (fr ++ led0) → ((@Ne Nat I C) ∧ (@Ne Nat I D) ∧ (@Ne Nat C D)) →
      wpAny (model prog w) A (eval elt (compEnvC scope cl C env)) (DlEnd h₀ L m { s₁ with heap := h, toks := tk } ((I, oI) :: (C, oC) :: (D, lst ys) :: (fr ++ led0)) new nd) E' { s₁ with heap := h, toks := tk })
    (fin : ∀ fr D ys h tk, Apart fr led0 → ys.length ≤ 8 → RdAll (fr ++ nl) ys (nds.map descD) → Fr h₀ L h m → News h₀ L h ((D, lst ys) :: (fr ++ led0)) → (∀ p ∈ led0, p.1 ≠ D) → Q (.ref D) { s₁ with heap := h, toks := tk }) :
    CompSrc prog w A h₀ L m env elt x scope cl (fun s₂ => FinE h₀ L m s₂ Q) (.ref ax) s₁ := by
  have hlen := hNs.length
  refine CompSrc.ledger hh F N hm (by rw [List.size_toArray, sizeLine_eq]; omega) fun g => ?_
  refine comp_fold (fun i ys nx => ∃ fr, nx = fr ++ led0 ∧ Apart fr led0 ∧ ys.length = i ∧ RdAll (fr ++ nl) ys ((nds.take i).map descD)) ?_ ?_ _ 0 [] led0 (Nat.zero_add _) ⟨[], rfl, (fun q h => nomatch h), rfl, RdAll.nil⟩
  · rintro i ys nx v I oI C oC D m₂ h tk E' hi ⟨fr, rfl, ap, hy', rd⟩ hP hC hx F₁ N₁ off ne
    obtain ⟨nd, new, hnd, hN, hs⟩ := hNs.get (i := i) (by simpa using hP)
    refine wpAny_mono (turn v nd new fr I oI C oC D ys m₂ h tk E' hN (fun p hp => hnl p (hs p hp)) hC hx F₁ N₁ off ne) (fun y s₂ hy => ?_) fun _ _ e => e
    obtain ⟨tp, fr', h', tk', rfl, rfl, F', N', o', r'⟩ := hy
    refine comp_endA F' N' off o' (.inr ⟨_, List.mem_append_right _ (List.mem_append_right _ hm), rfl, _, rfl⟩) ⟨fr' ++ fr, (List.append_assoc ..).symm, Apart.app (o'.sub fun p hp => by simp [hp]) ap, by simp [hy'], ?_⟩
    rw [List.take_add_one, hnd, List.map_append]
    refine RdAll.snoc (r'.mono fun p hp => ?_) (rd.mono fun p hp => ?_)
    · rcases List.mem_append.mp hp with hp | hp
      · simp [hp]
      · exact List.mem_append_right _ (hs p hp)
    · rcases List.mem_append.mp hp with hp | hp <;> simp [hp]
  · rintro ys nx ⟨fr, rfl, ap, hy', rd⟩ D h tk F' N' o1
    rw [List.size_toArray, hlen, List.take_length] at rd
    exact fin fr D ys h tk ap (by rw [hy', List.size_toArray]; exact h8) rd F' N' fun p hp => off1_ne o1 p (List.mem_append_right _ hp)
end
theorem tup_of {w : World} {A : Around} {E : Value → Shared → Prop} {hp₁ : Heap} {gn₁ : Array GenState} {dr₁ : Drawn} {tk₁ : Nat} {os₁ : OsState} {h₀ : Heap} {L l : Addr} {m : Str → Option Value} {news : List (Addr × Obj)} {ys : List Value} {Q : Value → Shared → Prop} (F : Fr h₀ L hp₁ m) (N : News h₀ L hp₁ news) (hm : (l, LCg.lst ys) ∈ news) (hz : ys.length ≤ 8)
    (h : ∀ D h', Fr h₀ L h' m → News h₀ L h' ((D, tupO ys) :: news) → (∀ p ∈ news, p.1 < D) → Q (.ref D) (.mk h' gn₁ dr₁ tk₁ os₁)) : wpAny (model prog w) A (call (.type "tuple") [.ref l]) Q E (.mk hp₁ gn₁ dr₁ tk₁ os₁) :=
  kde_tupleOf F N (N.isList hm) (by rw [List.size_toArray]; omega) (by simp) h
theorem dl_close {h₀ h : Heap} {L T D c : Addr} {o0 o1 oc : Obj} {fr led : List (Addr × Obj)} (N : News h₀ L h ((T, o0) :: (D, o1) :: (fr ++ (c, oc) :: led))) : News h₀ L h (((T, o0) :: fr) ++ led) := fun p hp => N p (by
  rcases List.mem_cons.mp hp with rfl | hp
  · simp
  · rcases List.mem_append.mp hp with hp | hp <;> simp [hp])
theorem dl_apart {T D c : Addr} {o0 o1 oc : Obj} {fr led : List (Addr × Obj)} (l1 : ∀ p ∈ (D, o1) :: (fr ++ (c, oc) :: led), p.1 < T) (ap : Apart fr ((c, oc) :: led)) : Apart ((T, o0) :: fr) led := fun q hq p hp => by
  rcases List.mem_cons.mp hq with rfl | hq
  · exact Nat.ne_of_lt (l1 p (by simp [hp]))
  · exact ap q hq p (.tail _ hp)
abbrev DlOut (led nl : List (Addr × Obj)) (d : PyData) (v : Value) (led' : List (Addr × Obj)) : Prop := ∃ tp, v = .ref tp ∧ ∃ fr, led' = fr ++ led ∧ Apart fr led ∧ RdIn (fr ++ nl) (.ref tp) d
set_option maxHeartbeats 8000000 in
theorem dlist_ (w : World) {l : Addr} {vs : List Value} {nn : Nat} {nds : List Nd} {nl led : List (Addr × Obj)} (hl : (l, listOf vs.toArray nn) ∈ led) (hNs : NodesAt w.params nl vs nds) (hnl : ∀ p ∈ nl, p ∈ led) (h8 : vs.length ≤ 8) :
    Say prog w (hd.heap_1 w.params) 483 [.ref l] led 14 200 (DlOut led nl (.tuple (nds.map descD))) := by
  refine say_in ?_
  intro p loose mean mg mb dp un gd cn cs a ccd cl outer A₀ base h₀ L m hp₀ gn₀ dr₀ tk₀ os₀ Q E B F X N T hk hd hu hret
  w_on
  refine wpAny_call ?_
  k_dflt (refine' code_defC ?k1 ?k2 ?k3 ?k4 ?k5 ?kA ?kF ?kK ?k6 ?k7 ?k8 ?k9 ?kB ?kD ?_ ?c2 ?c3 ?c4; (case kA => exact rfl); (case kF => exact rfl); (case kK => assumption); (case k1 => k_asm); (case k2 => k_asm); (case k3 => k_asm); (case k4 => k_asm); (case k5 => k_asm); (case k6 => k_is); (case k7 => k_is); (case k8 => k_room); (case k9 => first | exact BindsTo.of_eq rfl | exact binds_K (by k_in) rfl (by k_is) rfl rfl rfl); (case kB => exact rfl); (case kD => decide +kernel); (case c2 => exact rfl); (case c3 => exact rfl); (case c4 => exact rfl); k_whole; intro g' L' h' tk' cells' FG' F' N' Y' B' X' T' l1; (try k_lt l1); k_cells Y'; (try simp only [List.cons_append, List.nil_append] at N'); (try dsimp only); (try k_lift B'); (try k_fold))
  repeat' (first
    | (k_unfold; (try dsimp only))
    | (k_end; wrow_close)
    | ((fail_if_success (with_reducible show wpAny _ _ _ _ _ _)); with_reducible ((k_dflt (refine' ⟨_, _, _, _, rfl, ?a_22_3, ?b_22_3, ?c_22_3, ?d_22_3, ?e_22_3⟩; (case a_22_3 => exact rfl); (case b_22_3 => assumption); (case c_22_3 => assumption); (case d_22_3 => assumption); (case e_22_3 => assumption)))))
    | ((with_reducible show wpAny _ _ (call _ _) _ _ _); (try k_fold); first
      | with_reducible ((k_here; (with_reducible show wpAny _ _ (call (Value.ref 477) [_, Value.int _ _]) _ _ _); k_dflt (refine' desc_use ?kn_22_2 ?ks_22_2 ?k6_22_2 ?k1_22_2 ?k2_22_2 ?k3_22_2 ?k4_22_2 ?k5_22_2 ?kK_22_2 ?kd_22_2 ?ku_22_2 ?_; (case kn_22_2 => with_reducible assumption); (case k1_22_2 => k_asm); (case k2_22_2 => k_asm); (case k3_22_2 => k_asm); (case k4_22_2 => k_asm); (case k5_22_2 => k_asm); (case kK_22_2 => first | exact rfl | assumption); (case kd_22_2 => k_room); (case ku_22_2 => k_units); (case k6_22_2 => first | assumption | omega); (case ks_22_2 => (intro p9 hp9; (with_reducible rename ∀ p ∈ _, p ∈ _ => hs9); (have h9 := hs9 p9 hp9); k_mem)); k_whole); intro tp' fr' h' tk' ap' rd' F' N'))
      | with_reducible ((k_here; (with_reducible show wpAny _ _ (call (Value.type "tuple") [Value.ref _]) _ _ _); k_dflt (refine' tup_of ?F_22_0 ?N_22_0 ?m_22_0 ?z_22_0 ?_; (case F_22_0 => k_asm); (case N_22_0 => k_asm); (case z_22_0 => with_reducible assumption); (case m_22_0 => k_mem); k_whole); intro D' h' F' N' l9')))
    | ((fail_if_success (with_reducible show wpAny _ _ _ _ _ _)); with_reducible ((k_here; (with_reducible rename NodesAt _ _ _ _ => nX9); focus (k_dflt (refine' dl_src ?a_22_1 ?F_22_1 ?N_22_1 ?m_22_1 ?z_22_1 nX9 ?l_22_1 ?_ ?_; (case a_22_1 => exact rfl); (case F_22_1 => k_asm); (case N_22_1 => k_asm); (case m_22_1 => k_mem); (case z_22_1 => assumption); (case l_22_1 => (intro p9 hp9; (with_reducible rename ∀ p ∈ _, p ∈ _ => hs9); (have h9 := hs9 p9 hp9); k_mem))); (intro v' nd' new' fr' I' oI' C' oC' D' ys' m' h' tk' E' hN' hs' hC' hx' F' N' off' ne'); rotate_left; (intro fr' D' ys' h' tk' ap' z9' rd' F' N' o9'); rotate_right))))
    | walk1
    | (dsimp only; walk1)
    | (leave1; walk_say "STEP leave1"; try dsimp only)
    | fail "no step")
  all_goals (with_reducible rename News h₀ L _ _ => lN9; with_reducible rename RdAll _ _ _ => rd9; with_reducible rename Apart _ _ => ap9; with_reducible rename ∀ p : Addr × Obj, p ∈ (_ : List (Addr × Obj)) → p.1 < _ => l9)
  all_goals exact hret _ _ _ _ (by k_asm) (dl_close lN9) ⟨_, rfl, _, rfl, dl_apart l9 ap9, RdIn.tup (List.mem_append_left _ (.head _)) (rd9.mono fun p hp => .tail _ hp)⟩
def roundF (n b : Int) : Int := if n < 0 then -((b - 2 * n).fdiv (2 * b)) else (2 * n + b).fdiv (2 * b)
theorem floordiv_exact {w : World} {A : Around} {E : Value → Shared → Prop} {hp₁ : Heap} {gn₁ : Array GenState} {dr₁ : Drawn} {tk₁ : Nat} {os₁ : OsState} {a b : Int} {t u : Tok} {Q : Value → Shared → Prop} (hb : 0 < b) (h1 : b < 1073741824) (h : Q (.int (a.fdiv b) tk₁) (.mk hp₁ gn₁ dr₁ (tk₁ + 1) os₁)) :
    wpAny (model prog w) A (binaryOp .FloorDiv (.int a t) (.int b u)) Q E (.mk hp₁ gn₁ dr₁ tk₁ os₁) :=
  floordiv_int (by omega) h (Or.inl (PyProof.noPylong_small (by omega)))
set_option maxHeartbeats 8000000 in
theorem round_ (w : World) {n b : Int} {t1 t2 : Tok} {led : List (Addr × Obj)} (h0 : 0 < b) (h1 : b ≤ 2000) :
    Say prog w (hd.heap_1 w.params) 117 [.int n t1, .int b t2] led 2 16 (fun v led' => (∃ t, v = .int (roundF n b) t) ∧ led' = led) := by
  refine say_in ?_
  intro p loose mean mg mb dp un gd cn cs a ccd cl outer A₀ base h₀ L m hp₀ gn₀ dr₀ tk₀ os₀ Q E B F X N T hk hd hu hret
  w_on
  refine wpAny_call ?_
  k_dflt ktr_enter
  repeat' (first
    | (k_unfold; (try dsimp only))
    | (k_end; wrow_close)
    | ((with_reducible show wpAny _ _ (call _ _) _ _ _); (try k_fold); first
      | with_reducible ((k_here; (with_reducible show wpAny _ _ (call (Value.ref 117) [Value.int _ _, Value.int _ _]) _ _ _); k_dflt (refine' sayL_use (round_ _ ?kl_23_1 ?ki_23_1) ?k1_23_1 ?k2_23_1 ?k3_23_1 ?k4_23_1 ?k5_23_1 ?kK_23_1 ?kd_23_1 ?ku_23_1 ?_; (case k1_23_1 => k_asm); (case k2_23_1 => k_asm); (case k3_23_1 => k_asm); (case k4_23_1 => k_asm); (case k5_23_1 => k_asm); (case kK_23_1 => first | exact rfl | assumption); (case kd_23_1 => k_room); (case ku_23_1 => k_units); (case kl_23_1 => first | assumption | omega); (case ki_23_1 => first | assumption | omega); k_whole); intro v' h' tk' r' F' N'; obtain ⟨t', e'⟩ := r'; subst e'; (try k_sweep)))
      | with_reducible ((k_here; (with_reducible show wpAny _ _ (call (Value.ref 498) [_]) _ _ _); k_dflt (refine' sayN_use (depth_ _ ?kn_08_13) ?ks_08_13 ?k1_08_13 ?k2_08_13 ?k3_08_13 ?k4_08_13 ?k5_08_13 ?kK_08_13 ?kd_08_13 ?ku_08_13 ?_; (case kn_08_13 => with_reducible assumption); (case k1_08_13 => k_asm); (case k2_08_13 => k_asm); (case k3_08_13 => k_asm); (case k4_08_13 => k_asm); (case k5_08_13 => k_asm); (case kK_08_13 => first | exact rfl | assumption); (case kd_08_13 => k_room); (case ku_08_13 => k_units); (case ks_08_13 => first | with_reducible assumption | kcf_all | (intro p9 hp9; (with_reducible rename ∀ p ∈ _, p ∈ _ => hs9); (have h9 := hs9 p9 hp9); k_mem)); k_whole); intro v' h' tk' e' F' N'; obtain ⟨t', e'⟩ := e'; subst e'; (try k_sweep)))
      | with_reducible ((k_here; (with_reducible show wpAny _ _ (call (Value.ref 493) [_]) _ _ _); k_dflt (refine' sayN_use (height_ _ ?kn_08_12) ?ks_08_12 ?k1_08_12 ?k2_08_12 ?k3_08_12 ?k4_08_12 ?k5_08_12 ?kK_08_12 ?kd_08_12 ?ku_08_12 ?_; (case kn_08_12 => with_reducible assumption); (case k1_08_12 => k_asm); (case k2_08_12 => k_asm); (case k3_08_12 => k_asm); (case k4_08_12 => k_asm); (case k5_08_12 => k_asm); (case kK_08_12 => first | exact rfl | assumption); (case kd_08_12 => k_room); (case ku_08_12 => k_units); (case ks_08_12 => first | with_reducible assumption | kcf_all | (intro p9 hp9; (with_reducible rename ∀ p ∈ _, p ∈ _ => hs9); (have h9 := hs9 p9 hp9); k_mem)); k_whole); intro v' h' tk' e' F' N'; obtain ⟨t', e'⟩ := e'; subst e'; (try k_sweep))))
    | ((with_reducible show wpAny _ _ (binaryOp _ _ _) _ _ _); with_reducible ((k_here; (with_reducible refine floordiv_exact ?h1_23_0 ?h2_23_0 ?_); (case h1_23_0 => omega); (case h2_23_0 => omega))))
    | ((with_reducible show wpAny _ _ (getAttr _ _ _) _ _ _); (fail_if_success (with_reducible show wpAny _ _ (getAttr (Value.ref _) _ _) _ _ _)); (try k_fold); first
      | with_reducible ((k_here; (with_reducible show wpAny _ _ (getAttr _ (Str.ofString "kind") _) _ _ _); k_dflt (refine' kind_get ?k1_08_4 ?k2_08_4 ?k3_08_4 ?k4_08_4 ?k5_08_4 ?_; (case k1_08_4 => with_reducible assumption); (case k3_08_4 => k_asm); (case k4_08_4 => k_asm); (case k5_08_4 => k_asm); (case k2_08_4 => first | with_reducible assumption | (intro p9 hp9; (with_reducible rename ∀ p ∈ _, p ∈ _ => hs9); (have h9 := hs9 p9 hp9); k_mem)); k_whole); intro t' k'))
      | with_reducible ((k_here; (with_reducible rename NodeAt _ _ _ _ => hN9); (with_reducible rename ∀ p ∈ _, p ∈ _ => hs9); (have hNc := hN9); (have hsc := hs9); (first | induction hN9 | cases hN9) <;> first | exact absurd_kind (by with_reducible assumption) rfl | exact absurd_le (by with_reducible assumption) rfl | exact absurd_box (by with_reducible assumption) (by with_reducible assumption) rfl | exact absurd_nle (by with_reducible assumption) (by with_reducible assumption) | (exfalso; simp only [kindF] at *; omega) | (simp only [List.forall_mem_cons] at hs9; obtain ⟨m1', m2', m3'⟩ := hs9; (try (obtain ⟨m4', m5', -⟩ := m3'))))))
    | ((with_reducible show wpAny _ _ (eval (Expr.Name _ _) _) _ _ _); with_reducible (k_dflt (first | ((with_reducible show wpAny _ _ (eval (Expr.Name _ _) (envOf _ _ _ _ _)) _ _ _); first | (refine' ld ?k1_08_2 ?k2_08_2 ?_ (hk := rfl) (hl := ?kl_08_2) (hd := ?kd_08_2); (case kl_08_2 => kernel_rfl); (case k1_08_2 => with_reducible assumption); (case k2_08_2 => exact rfl); (case kd_08_2 => decide +kernel)) | (refine' name_K ?kF_08_2 ?k1_08_2 ?k2_08_2 ?k3_08_2 ?_ (hk := rfl) (hx := ?kl_08_2) (hd := ?kd_08_2); (case kF_08_2 => with_reducible assumption); (case k1_08_2 => with_reducible assumption); (case k2_08_2 => k_asm); (case k3_08_2 => k_is); (case kl_08_2 => kernel_rfl); (case kd_08_2 => decide +kernel); k_whole)))))
    | ((with_reducible show ite _ _ _); first
      | with_reducible ((k_closed; k_dflt (first | refine ite_pos (by decide) ?_ | refine ite_neg (by decide) ?_)))
      | with_reducible ((k_here; k_openite; k_spoken; first | (refine ite_pos (by first | omega | (simp only [decide_eq_true_eq, beq_iff_eq, bne_iff_ne, ne_eq]; omega)) ?_; walk_say "DECIDED") | (refine ite_neg (by first | omega | (simp only [decide_eq_true_eq, beq_iff_eq, bne_iff_ne, ne_eq]; omega)) ?_; walk_say "DECIDED"))))
    | walk1
    | (dsimp only; walk1)
    | (leave1; walk_say "STEP leave1"; try dsimp only)
    | fail "no step")
  · exact hret _ _ _ _ (by k_asm) (by k_asm) ⟨⟨_, by unfold roundF; rw [if_pos (by assumption)]⟩, rfl⟩
  · exact hret _ _ _ _ (by k_asm) (by k_asm) ⟨⟨_, by unfold roundF; rw [if_neg (by assumption)]⟩, rfl⟩
set_option maxHeartbeats 8000000 in
theorem setpart_ (w : World) {bx dbx l rt : Addr} {a0 a1 a2 a3 a4 a5 a6 a7 a8 t8 t9 t : Tok} {vk vw vh vd vsh vg vo : Value} {p q fl : Int} {led : List (Addr × Obj)} (m0 : (bx, instObj 342 dbx) ∈ led) (m1 : (dbx, boxO w.params a0 a1 a2 a3 a4 a5 a6 a7 a8 vk vw vh vd l vsh vg vo rt) ∈ led) (m2 : (rt, tupO [.int p t8, .int q t9]) ∈ led)
    (h0 : 0 < q) (h1 : q ≤ 2000) (f0 : -10000 ≤ fl) (f1 : fl ≤ 10000) :
    Say prog w (hd.heap_1 w.params) 576 [.ref bx, .int fl t] led 4 40 (fun v led' => (∃ t, v = .int (roundF (p * fl) q) t) ∧ led' = led) := by
  refine say_in ?_
  intro p loose mean mg mb dp un gd cn cs a ccd cl outer A₀ base h₀ L m hp₀ gn₀ dr₀ tk₀ os₀ Q E B F X N T hk hd hu hret
  w_on
  refine wpAny_call ?_
  k_dflt ktr_enter
  repeat' (first
    | (k_unfold; (try dsimp only))
    | (k_end; wrow_close)
    | ((with_reducible show wpAny _ _ (call _ _) _ _ _); (try k_fold); first
      | with_reducible ((k_here; (with_reducible show wpAny _ _ (call (Value.ref 117) [Value.int _ _, Value.int _ _]) _ _ _); k_dflt (refine' sayL_use (round_ _ ?kl_23_1 ?ki_23_1) ?k1_23_1 ?k2_23_1 ?k3_23_1 ?k4_23_1 ?k5_23_1 ?kK_23_1 ?kd_23_1 ?ku_23_1 ?_; (case k1_23_1 => k_asm); (case k2_23_1 => k_asm); (case k3_23_1 => k_asm); (case k4_23_1 => k_asm); (case k5_23_1 => k_asm); (case kK_23_1 => first | exact rfl | assumption); (case kd_23_1 => k_room); (case ku_23_1 => k_units); (case kl_23_1 => first | assumption | omega); (case ki_23_1 => first | assumption | omega); k_whole); intro v' h' tk' r' F' N'; obtain ⟨t', e'⟩ := r'; subst e'; (try k_sweep)))
      | with_reducible ((k_here; (with_reducible show wpAny _ _ (call (Value.ref 498) [_]) _ _ _); k_dflt (refine' sayN_use (depth_ _ ?kn_08_13) ?ks_08_13 ?k1_08_13 ?k2_08_13 ?k3_08_13 ?k4_08_13 ?k5_08_13 ?kK_08_13 ?kd_08_13 ?ku_08_13 ?_; (case kn_08_13 => with_reducible assumption); (case k1_08_13 => k_asm); (case k2_08_13 => k_asm); (case k3_08_13 => k_asm); (case k4_08_13 => k_asm); (case k5_08_13 => k_asm); (case kK_08_13 => first | exact rfl | assumption); (case kd_08_13 => k_room); (case ku_08_13 => k_units); (case ks_08_13 => first | with_reducible assumption | kcf_all | (intro p9 hp9; (with_reducible rename ∀ p ∈ _, p ∈ _ => hs9); (have h9 := hs9 p9 hp9); k_mem)); k_whole); intro v' h' tk' e' F' N'; obtain ⟨t', e'⟩ := e'; subst e'; (try k_sweep)))
      | with_reducible ((k_here; (with_reducible show wpAny _ _ (call (Value.ref 493) [_]) _ _ _); k_dflt (refine' sayN_use (height_ _ ?kn_08_12) ?ks_08_12 ?k1_08_12 ?k2_08_12 ?k3_08_12 ?k4_08_12 ?k5_08_12 ?kK_08_12 ?kd_08_12 ?ku_08_12 ?_; (case kn_08_12 => with_reducible assumption); (case k1_08_12 => k_asm); (case k2_08_12 => k_asm); (case k3_08_12 => k_asm); (case k4_08_12 => k_asm); (case k5_08_12 => k_asm); (case kK_08_12 => first | exact rfl | assumption); (case kd_08_12 => k_room); (case ku_08_12 => k_units); (case ks_08_12 => first | with_reducible assumption | kcf_all | (intro p9 hp9; (with_reducible rename ∀ p ∈ _, p ∈ _ => hs9); (have h9 := hs9 p9 hp9); k_mem)); k_whole); intro v' h' tk' e' F' N'; obtain ⟨t', e'⟩ := e'; subst e'; (try k_sweep))))
    | ((with_reducible show wpAny _ _ (binaryOp _ _ _) _ _ _); with_reducible ((k_here; (with_reducible refine floordiv_exact ?h1_23_0 ?h2_23_0 ?_); (case h1_23_0 => omega); (case h2_23_0 => omega))))
    | ((with_reducible show wpAny _ _ (getAttr _ _ _) _ _ _); (fail_if_success (with_reducible show wpAny _ _ (getAttr (Value.ref _) _ _) _ _ _)); (try k_fold); first
      | with_reducible ((k_here; (with_reducible show wpAny _ _ (getAttr _ (Str.ofString "kind") _) _ _ _); k_dflt (refine' kind_get ?k1_08_4 ?k2_08_4 ?k3_08_4 ?k4_08_4 ?k5_08_4 ?_; (case k1_08_4 => with_reducible assumption); (case k3_08_4 => k_asm); (case k4_08_4 => k_asm); (case k5_08_4 => k_asm); (case k2_08_4 => first | with_reducible assumption | (intro p9 hp9; (with_reducible rename ∀ p ∈ _, p ∈ _ => hs9); (have h9 := hs9 p9 hp9); k_mem)); k_whole); intro t' k'))
      | with_reducible ((k_here; (with_reducible rename NodeAt _ _ _ _ => hN9); (with_reducible rename ∀ p ∈ _, p ∈ _ => hs9); (have hNc := hN9); (have hsc := hs9); (first | induction hN9 | cases hN9) <;> first | exact absurd_kind (by with_reducible assumption) rfl | exact absurd_le (by with_reducible assumption) rfl | exact absurd_box (by with_reducible assumption) (by with_reducible assumption) rfl | exact absurd_nle (by with_reducible assumption) (by with_reducible assumption) | (exfalso; simp only [kindF] at *; omega) | (simp only [List.forall_mem_cons] at hs9; obtain ⟨m1', m2', m3'⟩ := hs9; (try (obtain ⟨m4', m5', -⟩ := m3'))))))
    | ((with_reducible show wpAny _ _ (eval (Expr.Name _ _) _) _ _ _); with_reducible (k_dflt (first | ((with_reducible show wpAny _ _ (eval (Expr.Name _ _) (envOf _ _ _ _ _)) _ _ _); first | (refine' ld ?k1_08_2 ?k2_08_2 ?_ (hk := rfl) (hl := ?kl_08_2) (hd := ?kd_08_2); (case kl_08_2 => kernel_rfl); (case k1_08_2 => with_reducible assumption); (case k2_08_2 => exact rfl); (case kd_08_2 => decide +kernel)) | (refine' name_K ?kF_08_2 ?k1_08_2 ?k2_08_2 ?k3_08_2 ?_ (hk := rfl) (hx := ?kl_08_2) (hd := ?kd_08_2); (case kF_08_2 => with_reducible assumption); (case k1_08_2 => with_reducible assumption); (case k2_08_2 => k_asm); (case k3_08_2 => k_is); (case kl_08_2 => kernel_rfl); (case kd_08_2 => decide +kernel); k_whole)))))
    | ((with_reducible show ite _ _ _); first
      | with_reducible ((k_closed; k_dflt (first | refine ite_pos (by decide) ?_ | refine ite_neg (by decide) ?_)))
      | with_reducible ((k_here; k_openite; k_spoken; first | (refine ite_pos (by first | omega | (simp only [decide_eq_true_eq, beq_iff_eq, bne_iff_ne, ne_eq]; omega)) ?_; walk_say "DECIDED") | (refine ite_neg (by first | omega | (simp only [decide_eq_true_eq, beq_iff_eq, bne_iff_ne, ne_eq]; omega)) ?_; walk_say "DECIDED"))))
    | walk1
    | (dsimp only; walk1)
    | (leave1; walk_say "STEP leave1"; try dsimp only)
    | fail "no step")
  all_goals exact hret _ _ _ _ (by k_asm) (by k_asm) ⟨⟨_, rfl⟩, rfl⟩
def flexF (sg od st so sk ko : Int) : Int := if sg = 1 ∧ so = od then st else if sg = 2 ∧ ko = od then -sk else 0
theorem flexF_le {sg od st so sk ko : Int} (h0 : 0 ≤ st) (h1 : st < 100) (h2 : 0 ≤ sk) (h3 : sk < 100) : -99 ≤ flexF sg od st so sk ko ∧ flexF sg od st so sk ko ≤ 99 := by
  unfold flexF
  (repeat' split) <;> omega
section
variable {sg od st so sk ko : Int}
theorem flexF_1 (h1 : sg = 1) (h2 : so = od) : st = flexF sg od st so sk ko := (if_pos ⟨h1, h2⟩).symm
theorem flexF_2 (h1 : sg = 2) (h2 : ko = od) : -sk = flexF sg od st so sk ko := ((if_neg fun h => absurd (h1.symm.trans h.1) (by decide)).trans (if_pos ⟨h1, h2⟩)).symm
theorem flexF_3 (h1 : ¬ sg = 1) (h2 : ¬ sg = 2) : 0 = flexF sg od st so sk ko := ((if_neg fun h => h1 h.1).trans (if_neg fun h => h2 h.1)).symm
theorem flexF_4 (h1 : sg = 1) (h2 : ¬ so = od) : 0 = flexF sg od st so sk ko := ((if_neg fun h => h2 h.2).trans (if_neg fun h => absurd (h1.symm.trans h.1) (by decide))).symm
theorem flexF_5 (h1 : sg = 2) (h2 : ¬ ko = od) : 0 = flexF sg od st so sk ko := ((if_neg fun h => absurd (h1.symm.trans h.1) (by decide)).trans (if_neg fun h => h2 h.2)).symm
theorem flex_fin {k : Int} {t : Tok} {led : List (Addr × Obj)} (h0 : 0 ≤ st) (h1 : st < 100) (h2 : 0 ≤ sk) (h3 : sk < 100) (e : k = flexF sg od st so sk ko) : (∃ k' t', Value.int k t = .int k' t' ∧ k' = flexF sg od st so sk ko ∧ -99 ≤ k' ∧ k' ≤ 99) ∧ led = led :=
  ⟨⟨k, t, rfl, e, e ▸ (flexF_le h0 h1 h2 h3).1, e ▸ (flexF_le h0 h1 h2 h3).2⟩, rfl⟩
end
set_option maxHeartbeats 8000000 in
theorem flex_ (w : World) {bx dbx l rt g dg : Addr} {a0 a1 a2 a3 a4 a5 a6 a7 a8 c0 c1 c2 c3 c4 v0 v1 v2 v3 v4 t6 t7 : Tok} {vk vw vh vd vsh : Value} {sg od wd st so sk ko : Int} {led : List (Addr × Obj)} (m0 : (bx, instObj 342 dbx) ∈ led) (m1 : (dbx, boxO w.params a0 a1 a2 a3 a4 a5 a6 a7 a8 vk vw vh vd l vsh (.int sg t6) (.int od t7) rt) ∈ led)
    (m2 : (g, instObj 234 dg) ∈ led) (m3 : (dg, dictOf [ent w.params "width" c0 (.int wd v0), ent w.params "stretch" c1 (.int st v1), ent w.params "stretch_order" c2 (.int so v2), ent w.params "shrink" c3 (.int sk v3), ent w.params "shrink_order" c4 (.int ko v4)] 5) ∈ led)
    (g0 : 0 ≤ st) (g1 : st < 100) (g2 : 0 ≤ sk) (g3 : sk < 100) :
    Say prog w (hd.heap_1 w.params) 569 [.ref bx, .ref g] led 2 16 (fun v led' => (∃ k t, v = .int k t ∧ k = flexF sg od st so sk ko ∧ -99 ≤ k ∧ k ≤ 99) ∧ led' = led) := by
  refine say_in ?_
  intro p loose mean mg mb dp un gd cn cs a ccd cl outer A₀ base h₀ L m hp₀ gn₀ dr₀ tk₀ os₀ Q E B F X N T hk hd hu hret
  w_on
  refine wpAny_call ?_
  k_dflt ktr_enter
  repeat' (first
    | (k_unfold; (try dsimp only))
    | (k_end; wrow_close)
    | ((with_reducible show wpAny _ _ (call _ _) _ _ _); (try k_fold); first
      | with_reducible ((k_here; (with_reducible show wpAny _ _ (call (Value.ref 117) [Value.int _ _, Value.int _ _]) _ _ _); k_dflt (refine' sayL_use (round_ _ ?kl_23_1 ?ki_23_1) ?k1_23_1 ?k2_23_1 ?k3_23_1 ?k4_23_1 ?k5_23_1 ?kK_23_1 ?kd_23_1 ?ku_23_1 ?_; (case k1_23_1 => k_asm); (case k2_23_1 => k_asm); (case k3_23_1 => k_asm); (case k4_23_1 => k_asm); (case k5_23_1 => k_asm); (case kK_23_1 => first | exact rfl | assumption); (case kd_23_1 => k_room); (case ku_23_1 => k_units); (case kl_23_1 => first | assumption | omega); (case ki_23_1 => first | assumption | omega); k_whole); intro v' h' tk' r' F' N'; obtain ⟨t', e'⟩ := r'; subst e'; (try k_sweep)))
      | with_reducible ((k_here; (with_reducible show wpAny _ _ (call (Value.ref 498) [_]) _ _ _); k_dflt (refine' sayN_use (depth_ _ ?kn_08_13) ?ks_08_13 ?k1_08_13 ?k2_08_13 ?k3_08_13 ?k4_08_13 ?k5_08_13 ?kK_08_13 ?kd_08_13 ?ku_08_13 ?_; (case kn_08_13 => with_reducible assumption); (case k1_08_13 => k_asm); (case k2_08_13 => k_asm); (case k3_08_13 => k_asm); (case k4_08_13 => k_asm); (case k5_08_13 => k_asm); (case kK_08_13 => first | exact rfl | assumption); (case kd_08_13 => k_room); (case ku_08_13 => k_units); (case ks_08_13 => first | with_reducible assumption | kcf_all | (intro p9 hp9; (with_reducible rename ∀ p ∈ _, p ∈ _ => hs9); (have h9 := hs9 p9 hp9); k_mem)); k_whole); intro v' h' tk' e' F' N'; obtain ⟨t', e'⟩ := e'; subst e'; (try k_sweep)))
      | with_reducible ((k_here; (with_reducible show wpAny _ _ (call (Value.ref 493) [_]) _ _ _); k_dflt (refine' sayN_use (height_ _ ?kn_08_12) ?ks_08_12 ?k1_08_12 ?k2_08_12 ?k3_08_12 ?k4_08_12 ?k5_08_12 ?kK_08_12 ?kd_08_12 ?ku_08_12 ?_; (case kn_08_12 => with_reducible assumption); (case k1_08_12 => k_asm); (case k2_08_12 => k_asm); (case k3_08_12 => k_asm); (case k4_08_12 => k_asm); (case k5_08_12 => k_asm); (case kK_08_12 => first | exact rfl | assumption); (case kd_08_12 => k_room); (case ku_08_12 => k_units); (case ks_08_12 => first | with_reducible assumption | kcf_all | (intro p9 hp9; (with_reducible rename ∀ p ∈ _, p ∈ _ => hs9); (have h9 := hs9 p9 hp9); k_mem)); k_whole); intro v' h' tk' e' F' N'; obtain ⟨t', e'⟩ := e'; subst e'; (try k_sweep))))
    | ((with_reducible show wpAny _ _ (binaryOp _ _ _) _ _ _); with_reducible ((k_here; (with_reducible refine floordiv_exact ?h1_23_0 ?h2_23_0 ?_); (case h1_23_0 => omega); (case h2_23_0 => omega))))
    | ((with_reducible show wpAny _ _ (getAttr _ _ _) _ _ _); (fail_if_success (with_reducible show wpAny _ _ (getAttr (Value.ref _) _ _) _ _ _)); (try k_fold); first
      | with_reducible ((k_here; (with_reducible show wpAny _ _ (getAttr _ (Str.ofString "kind") _) _ _ _); k_dflt (refine' kind_get ?k1_08_4 ?k2_08_4 ?k3_08_4 ?k4_08_4 ?k5_08_4 ?_; (case k1_08_4 => with_reducible assumption); (case k3_08_4 => k_asm); (case k4_08_4 => k_asm); (case k5_08_4 => k_asm); (case k2_08_4 => first | with_reducible assumption | (intro p9 hp9; (with_reducible rename ∀ p ∈ _, p ∈ _ => hs9); (have h9 := hs9 p9 hp9); k_mem)); k_whole); intro t' k'))
      | with_reducible ((k_here; (with_reducible rename NodeAt _ _ _ _ => hN9); (with_reducible rename ∀ p ∈ _, p ∈ _ => hs9); (have hNc := hN9); (have hsc := hs9); (first | induction hN9 | cases hN9) <;> first | exact absurd_kind (by with_reducible assumption) rfl | exact absurd_le (by with_reducible assumption) rfl | exact absurd_box (by with_reducible assumption) (by with_reducible assumption) rfl | exact absurd_nle (by with_reducible assumption) (by with_reducible assumption) | (exfalso; simp only [kindF] at *; omega) | (simp only [List.forall_mem_cons] at hs9; obtain ⟨m1', m2', m3'⟩ := hs9; (try (obtain ⟨m4', m5', -⟩ := m3'))))))
    | ((with_reducible show wpAny _ _ (eval (Expr.Name _ _) _) _ _ _); with_reducible (k_dflt (first | ((with_reducible show wpAny _ _ (eval (Expr.Name _ _) (envOf _ _ _ _ _)) _ _ _); first | (refine' ld ?k1_08_2 ?k2_08_2 ?_ (hk := rfl) (hl := ?kl_08_2) (hd := ?kd_08_2); (case kl_08_2 => kernel_rfl); (case k1_08_2 => with_reducible assumption); (case k2_08_2 => exact rfl); (case kd_08_2 => decide +kernel)) | (refine' name_K ?kF_08_2 ?k1_08_2 ?k2_08_2 ?k3_08_2 ?_ (hk := rfl) (hx := ?kl_08_2) (hd := ?kd_08_2); (case kF_08_2 => with_reducible assumption); (case k1_08_2 => with_reducible assumption); (case k2_08_2 => k_asm); (case k3_08_2 => k_is); (case kl_08_2 => kernel_rfl); (case kd_08_2 => decide +kernel); k_whole)))))
    | ((with_reducible show ite _ _ _); first
      | with_reducible ((k_closed; k_dflt (first | refine ite_pos (by decide) ?_ | refine ite_neg (by decide) ?_)))
      | with_reducible ((k_here; k_openite; k_spoken; first | (refine ite_pos (by first | omega | (simp only [decide_eq_true_eq, beq_iff_eq, bne_iff_ne, ne_eq]; omega)) ?_; walk_say "DECIDED") | (refine ite_neg (by first | omega | (simp only [decide_eq_true_eq, beq_iff_eq, bne_iff_ne, ne_eq]; omega)) ?_; walk_say "DECIDED"))))
    | walk1
    | (dsimp only; walk1)
    | (leave1; walk_say "STEP leave1"; try dsimp only)
    | fail "no step")
  all_goals refine hret _ _ _ _ (by k_asm) (by k_asm) (flex_fin g0 g1 g2 g3 ?_)
  all_goals first
    | exact flexF_1 (by assumption) (by assumption)
    | exact flexF_2 (by assumption) (by assumption)
    | exact flexF_3 (by assumption) (by assumption)
    | exact flexF_4 (by assumption) (by assumption)
    | exact flexF_5 (by assumption) (by assumption)
def sizeF : Nd → Int
  | .kern wd => wd
  | nd => heightF nd + depthF nd
set_option maxHeartbeats 8000000 in
theorem partsize_ (w : World) {bx dbx l rt : Addr} {v : Value} {nd : Nd} {new : List (Addr × Obj)} {a0 a1 a2 a3 a4 a5 a6 a7 a8 t6 : Tok} {vw vh vd vsh vg vo : Value} {led : List (Addr × Obj)} (m0 : (bx, instObj 342 dbx) ∈ led) (m1 : (dbx, boxO w.params a0 a1 a2 a3 a4 a5 a6 a7 a8 (.int 3 t6) vw vh vd l vsh vg vo rt) ∈ led)
    (hN : NodeAt w.params v nd new) (hs : ∀ p ∈ new, p ∈ led) (h6 : kindF nd ≠ 6) :
    Say prog w (hd.heap_1 w.params) 583 [.ref bx, v] led 4 40 (fun v led' => (∃ t, v = .int (sizeF nd) t) ∧ led' = led) := by
  refine say_in ?_
  intro p loose mean mg mb dp un gd cn cs a ccd cl outer A₀ base h₀ L m hp₀ gn₀ dr₀ tk₀ os₀ Q E B F X N T hk hd hu hret
  obtain ⟨n1, n2, n3⟩ := kind_in hN
  w_on
  refine wpAny_call ?_
  k_dflt ktr_enter
  repeat' (first
    | (k_unfold; (try dsimp only))
    | (k_end; wrow_close)
    | ((with_reducible show wpAny _ _ (call _ _) _ _ _); (try k_fold); first
      | with_reducible ((k_here; (with_reducible show wpAny _ _ (call (Value.ref 117) [Value.int _ _, Value.int _ _]) _ _ _); k_dflt (refine' sayL_use (round_ _ ?kl_23_1 ?ki_23_1) ?k1_23_1 ?k2_23_1 ?k3_23_1 ?k4_23_1 ?k5_23_1 ?kK_23_1 ?kd_23_1 ?ku_23_1 ?_; (case k1_23_1 => k_asm); (case k2_23_1 => k_asm); (case k3_23_1 => k_asm); (case k4_23_1 => k_asm); (case k5_23_1 => k_asm); (case kK_23_1 => first | exact rfl | assumption); (case kd_23_1 => k_room); (case ku_23_1 => k_units); (case kl_23_1 => first | assumption | omega); (case ki_23_1 => first | assumption | omega); k_whole); intro v' h' tk' r' F' N'; obtain ⟨t', e'⟩ := r'; subst e'; (try k_sweep)))
      | with_reducible ((k_here; (with_reducible show wpAny _ _ (call (Value.ref 498) [_]) _ _ _); k_dflt (refine' sayN_use (depth_ _ ?kn_08_13) ?ks_08_13 ?k1_08_13 ?k2_08_13 ?k3_08_13 ?k4_08_13 ?k5_08_13 ?kK_08_13 ?kd_08_13 ?ku_08_13 ?_; (case kn_08_13 => with_reducible assumption); (case k1_08_13 => k_asm); (case k2_08_13 => k_asm); (case k3_08_13 => k_asm); (case k4_08_13 => k_asm); (case k5_08_13 => k_asm); (case kK_08_13 => first | exact rfl | assumption); (case kd_08_13 => k_room); (case ku_08_13 => k_units); (case ks_08_13 => first | with_reducible assumption | kcf_all | (intro p9 hp9; (with_reducible rename ∀ p ∈ _, p ∈ _ => hs9); (have h9 := hs9 p9 hp9); k_mem)); k_whole); intro v' h' tk' e' F' N'; obtain ⟨t', e'⟩ := e'; subst e'; (try k_sweep)))
      | with_reducible ((k_here; (with_reducible show wpAny _ _ (call (Value.ref 493) [_]) _ _ _); k_dflt (refine' sayN_use (height_ _ ?kn_08_12) ?ks_08_12 ?k1_08_12 ?k2_08_12 ?k3_08_12 ?k4_08_12 ?k5_08_12 ?kK_08_12 ?kd_08_12 ?ku_08_12 ?_; (case kn_08_12 => with_reducible assumption); (case k1_08_12 => k_asm); (case k2_08_12 => k_asm); (case k3_08_12 => k_asm); (case k4_08_12 => k_asm); (case k5_08_12 => k_asm); (case kK_08_12 => first | exact rfl | assumption); (case kd_08_12 => k_room); (case ku_08_12 => k_units); (case ks_08_12 => first | with_reducible assumption | kcf_all | (intro p9 hp9; (with_reducible rename ∀ p ∈ _, p ∈ _ => hs9); (have h9 := hs9 p9 hp9); k_mem)); k_whole); intro v' h' tk' e' F' N'; obtain ⟨t', e'⟩ := e'; subst e'; (try k_sweep))))
    | ((with_reducible show wpAny _ _ (binaryOp _ _ _) _ _ _); with_reducible ((k_here; (with_reducible refine floordiv_exact ?h1_23_0 ?h2_23_0 ?_); (case h1_23_0 => omega); (case h2_23_0 => omega))))
    | ((with_reducible show wpAny _ _ (getAttr _ _ _) _ _ _); (fail_if_success (with_reducible show wpAny _ _ (getAttr (Value.ref _) _ _) _ _ _)); (try k_fold); first
      | with_reducible ((k_here; (with_reducible show wpAny _ _ (getAttr _ (Str.ofString "kind") _) _ _ _); k_dflt (refine' kind_get ?k1_08_4 ?k2_08_4 ?k3_08_4 ?k4_08_4 ?k5_08_4 ?_; (case k1_08_4 => with_reducible assumption); (case k3_08_4 => k_asm); (case k4_08_4 => k_asm); (case k5_08_4 => k_asm); (case k2_08_4 => first | with_reducible assumption | (intro p9 hp9; (with_reducible rename ∀ p ∈ _, p ∈ _ => hs9); (have h9 := hs9 p9 hp9); k_mem)); k_whole); intro t' k'))
      | with_reducible ((k_here; (with_reducible rename NodeAt _ _ _ _ => hN9); (with_reducible rename ∀ p ∈ _, p ∈ _ => hs9); (have hNc := hN9); (have hsc := hs9); (first | induction hN9 | cases hN9) <;> first | exact absurd_kind (by with_reducible assumption) rfl | exact absurd_le (by with_reducible assumption) rfl | exact absurd_box (by with_reducible assumption) (by with_reducible assumption) rfl | exact absurd_nle (by with_reducible assumption) (by with_reducible assumption) | (exfalso; simp only [kindF] at *; omega) | (simp only [List.forall_mem_cons] at hs9; obtain ⟨m1', m2', m3'⟩ := hs9; (try (obtain ⟨m4', m5', -⟩ := m3'))))))
    | ((with_reducible show wpAny _ _ (eval (Expr.Name _ _) _) _ _ _); with_reducible (k_dflt (first | ((with_reducible show wpAny _ _ (eval (Expr.Name _ _) (envOf _ _ _ _ _)) _ _ _); first | (refine' ld ?k1_08_2 ?k2_08_2 ?_ (hk := rfl) (hl := ?kl_08_2) (hd := ?kd_08_2); (case kl_08_2 => kernel_rfl); (case k1_08_2 => with_reducible assumption); (case k2_08_2 => exact rfl); (case kd_08_2 => decide +kernel)) | (refine' name_K ?kF_08_2 ?k1_08_2 ?k2_08_2 ?k3_08_2 ?_ (hk := rfl) (hx := ?kl_08_2) (hd := ?kd_08_2); (case kF_08_2 => with_reducible assumption); (case k1_08_2 => with_reducible assumption); (case k2_08_2 => k_asm); (case k3_08_2 => k_is); (case kl_08_2 => kernel_rfl); (case kd_08_2 => decide +kernel); k_whole)))))
    | ((with_reducible show ite _ _ _); first
      | with_reducible ((k_closed; k_dflt (first | refine ite_pos (by decide) ?_ | refine ite_neg (by decide) ?_)))
      | with_reducible ((k_here; k_openite; k_spoken; first | (refine ite_pos (by first | omega | (simp only [decide_eq_true_eq, beq_iff_eq, bne_iff_ne, ne_eq]; omega)) ?_; walk_say "DECIDED") | (refine ite_neg (by first | omega | (simp only [decide_eq_true_eq, beq_iff_eq, bne_iff_ne, ne_eq]; omega)) ?_; walk_say "DECIDED"))))
    | walk1
    | (dsimp only; walk1)
    | (leave1; walk_say "STEP leave1"; try dsimp only)
    | fail "no step")
  all_goals first
    | exact hret _ _ _ _ (by k_asm) (by k_asm) ⟨⟨_, rfl⟩, rfl⟩
    | ((have e9 : sizeF nd = heightF nd + depthF nd := by cases hN <;> first | rfl | (exfalso; simp only [kindF] at *; omega)); exact hret _ _ _ _ (by k_asm) (by k_asm) ⟨⟨_, by rw [e9]⟩, rfl⟩)
def plStep (sg od p q : Int) (s : Int × Int × List Int) : Nd → Int × Int × List Int
  | .skip wd st so sk ko => (s.1 + wd, s.2.1 + flexF sg od st so sk ko, s.2.2 ++ [s.1 + wd + roundF (p * (s.2.1 + flexF sg od st so sk ko)) q])
  | nd => (s.1 + sizeF nd, s.2.1, s.2.2 ++ [s.1 + sizeF nd + roundF (p * s.2.1) q])
theorem plStep_other {sg od p q : Int} {s : Int × Int × List Int} {nd : Nd} (h : kindF nd ≠ 6) : plStep sg od p q s nd = (s.1 + sizeF nd, s.2.1, s.2.2 ++ [s.1 + sizeF nd + roundF (p * s.2.1) q]) := by
  cases nd <;> first | rfl | (exfalso; simp only [kindF] at h; omega)
theorem skip_bd {P : Params} {v : Value} {new : List (Addr × Obj)} {wd st so sk ko : Int} (hN : NodeAt P v (.skip wd st so sk ko) new) : 0 ≤ st ∧ st < 100 ∧ 0 ≤ sk ∧ sk < 100 := by
  cases hN
  refine ⟨?_, ?_, ?_, ?_⟩ <;> assumption
theorem plStep_bd {P : Params} {v : Value} {new : List (Addr × Obj)} {sg od p q : Int} {s : Int × Int × List Int} {nd : Nd} {i : Nat} (hN : NodeAt P v nd new) (h0 : -(99 * (i : Int)) ≤ s.2.1) (h1 : s.2.1 ≤ 99 * (i : Int)) : -(99 * ((i + 1 : Nat) : Int)) ≤ (plStep sg od p q s nd).2.1 ∧ (plStep sg od p q s nd).2.1 ≤ 99 * ((i + 1 : Nat) : Int) := by
  by_cases h6 : kindF nd = 6
  · cases nd with
    | skip wd st so sk ko =>
      obtain ⟨a, b, c, d⟩ := skip_bd hN
      have := flexF_le (sg := sg) (od := od) (so := so) (ko := ko) a b c d
      simp only [plStep]
      omega
    | box k _ _ _ _ => exfalso; simp only [kindF] at h6; have := (kind_in hN); simp only [kindF] at this; cases hN; omega
    | rule f _ _ => exfalso; simp [kindF] at h6
    | kern _ => exfalso; simp [kindF] at h6
    | pen _ => exfalso; simp [kindF] at h6
    | mark => exfalso; simp [kindF] at h6
  · rw [plStep_other h6]
    simp only
    omega
structure PlS where
  fx : Int
  tf : Tok
  fl : Int
  tl : Tok
  us : List Value
  n : Nat
def plF (sg od p q : Int) (nds : List Nd) : Int × Int × List Int := nds.foldl (plStep sg od p q) (0, 0, [0])
section
variable {w : World} {A : Around} {E : Value → Shared → Prop} {s : Shared} {env : Env} {h₀ : Heap} {body : List Stmt} {Q : Flow → Shared → Prop}
def PlEnd (h₀ : Heap) (L : Addr) (m₀ : Str → Option Value) (fd : Addr) (cst : List (Addr × Obj)) (sg od p q : Int) (fx fl : Int) (us : List Value) (ns : List Int) (nd : Nd) (s₁ : Shared) (Q : Flow → Shared → Prop) (f : Flow) (s₂ : Shared) : Prop :=
  match f with
  | .ret v => Q (.ret v) s₂
  | .brk => Q .next s₂
  | _ => ∃ h' tk m' fx' tf' fl' tl' z t n', s₂ = { s₁ with heap := h', toks := tk } ∧ Fr h₀ L h' m' ∧ News h₀ L h' ((fd, listOf (us ++ [Value.int z t]).toArray n') :: cst) ∧ m' (Str.ofString "fixed") = some (.int fx' tf') ∧ m' (Str.ofString "flexed") = some (.int fl' tl') ∧ (∀ y, y ≠ Str.ofString "node" → y ≠ Str.ofString "fixed" → y ≠ Str.ofString "flexed" → m' y = m₀ y) ∧ plStep sg od p q (fx, fl, ns) nd = (fx', fl', ns ++ [z])
theorem pl_next {h₀ : Heap} {L : Addr} {m₀ m' : Str → Option Value} {fd : Addr} {cst : List (Addr × Obj)} {sg od p q fx fl fx' fl' z : Int} {tf' tl' t : Tok} {n' tk : Nat} {us : List Value} {ns : List Int} {nd : Nd} {s₁ : Shared} {Q : Flow → Shared → Prop} {h' : Heap} (F : Fr h₀ L h' m') (N : News h₀ L h' ((fd, listOf (us ++ [Value.int z t]).toArray n') :: cst)) (j1 : m' (Str.ofString "fixed") = some (.int fx' tf')) (j2 : m' (Str.ofString "flexed") = some (.int fl' tl'))
    (j3 : ∀ y, y ≠ Str.ofString "node" → y ≠ Str.ofString "fixed" → y ≠ Str.ofString "flexed" → m' y = m₀ y) (j4 : plStep sg od p q (fx, fl, ns) nd = (fx', fl', ns ++ [z])) : PlEnd h₀ L m₀ fd cst sg od p q fx fl us ns nd s₁ Q .next { s₁ with heap := h', toks := tk } :=
  ⟨h', tk, m', fx', tf', fl', tl', z, t, n', rfl, F, N, j1, j2, j3, j4⟩
def PlPar (_ _ _ _ : Int) : Prop := True
theorem pl_loop {P : Params} {l fd : Addr} {vs : List Value} {nn n1 : Nat} {m₀ : Str → Option Value} {led nl : List (Addr × Obj)} {nds : List Nd} {sg od p q : Int} {c0 tf tl : Tok}
    (_hP : PlPar sg od p q) (hh : A.handled = none) (F : Fr h₀ env.locals s.heap m₀) (N : News h₀ env.locals s.heap ((fd, listOf #[.int 0 c0] n1) :: led)) (hl : (l, listOf vs.toArray nn) ∈ led) (hNs : NodesAt P nl vs nds) (hnl : ∀ p ∈ nl, p ∈ led) (h8 : vs.length ≤ 8)
    (h1 : m₀ (Str.ofString "fixed") = some (.int 0 tf)) (h2 : m₀ (Str.ofString "flexed") = some (.int 0 tl))
    (turn : ∀ v nd new fx tf fl tl us n ns h tk own, NodeAt P v nd new → (∀ p ∈ new, p ∈ led) → IntsAre us ns → us.length ≤ 8 → -800 ≤ fl → fl ≤ 800 → OwnOff own [fd] →
      Fr h₀ env.locals h (fun y => if y = Str.ofString "node" then some v else if y = Str.ofString "fixed" then some (.int fx tf) else if y = Str.ofString "flexed" then some (.int fl tl) else m₀ y) → News h₀ env.locals h ((fd, listOf us.toArray n) :: (led ++ own)) →
      wpAny (model prog w) A (execs body env) (PlEnd h₀ env.locals m₀ fd (led ++ own) sg od p q fx fl us ns nd { s with heap := h, toks := tk } Q) E { s with heap := h, toks := tk })
    (done : ∀ fx tf fl tl us n ns (u : Str → Option Value) h tk, IntsAre us ns → plF sg od p q nds = (fx, fl, ns) → Fr h₀ env.locals h (fun y => if y = Str.ofString "node" then u y else if y = Str.ofString "fixed" then some (.int fx tf) else if y = Str.ofString "flexed" then some (.int fl tl) else m₀ y) → News h₀ env.locals h ((fd, listOf us.toArray n) :: led) → Q .next { s with heap := h, toks := tk }) :
    wpAny (model prog w) A (pyIter (.ref l)) (fun it s₂ => LoopAtV prog w A h₀ env (Str.ofString "node") body Q E it s₂) E s := by
  have hlen := hNs.length
  refine items_loop (σ := PlS) (fun c => [(fd, listOf c.us.toArray c.n)]) [fd] (Str.ofString "fixed") (Str.ofString "flexed") (fun c => Value.int c.fx c.tf) (fun c => Value.int c.fl c.tl)
    (fun i c => ∃ ns, IntsAre c.us ns ∧ (nds.take i).foldl (plStep sg od p q) (0, 0, [0]) = (c.fx, c.fl, ns) ∧ -(99 * (i : Int)) ≤ c.fl ∧ c.fl ≤ 99 * (i : Int) ∧ c.us.length = i + 1) ⟨0, tf, 0, tl, [.int 0 c0], n1⟩ hh F N hl (fun _ => rfl) h1 h2 ⟨[0], .cons _ _ .nil, rfl, by simp, by simp, rfl⟩ ?_ ?_
  · rintro i v ⟨fx, tf, fl, tl, us, n⟩ h tk own hv ⟨ns, hi, hf, b0, b1, hul⟩ o1 _ F₁ N₁
    obtain ⟨nd, new, hnd, hN, hs⟩ := hNs.get hv
    have hi8 : i < 8 := by
      have := (List.getElem?_eq_some_iff.mp hv).1
      omega
    dsimp only at hi hf b0 b1 hul
    refine wpAny_mono (turn v nd new fx tf fl tl us n ns h tk own hN (fun p hp => hnl p (hs p hp)) hi (by omega) (by omega) (by omega) o1 F₁ N₁) (fun f s₂ hx => ?_) fun _ _ e => e
    have fin : (∃ h' tk' m' fx' tf' fl' tl' z t n', s₂ = { ({ s with heap := h, toks := tk } : Shared) with heap := h', toks := tk' } ∧ Fr h₀ env.locals h' m' ∧ News h₀ env.locals h' ((fd, listOf (us ++ [Value.int z t]).toArray n') :: (led ++ own)) ∧ m' (Str.ofString "fixed") = some (.int fx' tf') ∧ m' (Str.ofString "flexed") = some (.int fl' tl') ∧ (∀ y, y ≠ Str.ofString "node" → y ≠ Str.ofString "fixed" → y ≠ Str.ofString "flexed" → m' y = m₀ y) ∧ plStep sg od p q (fx, fl, ns) nd = (fx', fl', ns ++ [z])) →
        ∃ h' tk' m' c, s₂ = { ({ s with heap := h, toks := tk } : Shared) with heap := h', toks := tk' } ∧ Fr h₀ env.locals h' m' ∧ News h₀ env.locals h' ((fun c : PlS => [(fd, listOf c.us.toArray c.n)]) c ++ (led ++ own)) ∧ m' (Str.ofString "fixed") = some ((fun c : PlS => Value.int c.fx c.tf) c) ∧ m' (Str.ofString "flexed") = some ((fun c : PlS => Value.int c.fl c.tl) c) ∧ (∀ z, z ≠ Str.ofString "node" → z ≠ Str.ofString "fixed" → z ≠ Str.ofString "flexed" → m' z = m₀ z) ∧
          ∃ ns, IntsAre c.us ns ∧ (nds.take (i + 1)).foldl (plStep sg od p q) (0, 0, [0]) = (c.fx, c.fl, ns) ∧ -(99 * ((i + 1 : Nat) : Int)) ≤ c.fl ∧ c.fl ≤ 99 * ((i + 1 : Nat) : Int) ∧ c.us.length = i + 1 + 1 := by
      rintro ⟨h', tk', m', fx', tf', fl', tl', z, t, n', rfl, F', N', j1, j2, jm, hp⟩
      have bd := plStep_bd (sg := sg) (od := od) (p := p) (q := q) (s := (fx, fl, ns)) (i := i) hN b0 b1
      rw [hp] at bd
      refine ⟨h', tk', m', ⟨fx', tf', fl', tl', us ++ [Value.int z t], n'⟩, rfl, F', N', j1, j2, jm, ns ++ [z], IntsAre.append hi (.cons _ _ .nil), ?_, bd.1, bd.2, by simp [hul]⟩
      rw [List.take_add_one, hnd, List.foldl_append, hf]
      exact hp
    cases f with
    | ret v => exact hx
    | brk => exact hx
    | next => exact fin hx
    | cont => exact fin hx
  · rintro ⟨fx, tf, fl, tl, us, n⟩ u h tk ⟨ns, hi, hf, -, -, -⟩ F₁ N₁
    rw [hlen, List.take_length] at hf
    exact done fx tf fl tl us n ns u h tk hi hf F₁ N₁
end
theorem app_led {w : World} {A : Around} {E : Value → Shared → Prop} {hp₁ : Heap} {gn₁ : Array GenState} {dr₁ : Drawn} {tk₁ : Nat} {os₁ : OsState} {h₀ : Heap} {L fd : Addr} {m : Str → Option Value} {rest : List (Addr × Obj)} {us : List Value} {n : Nat} {v : Value} {Q : Value → Shared → Prop} (F : Fr h₀ L hp₁ m) (N : News h₀ L hp₁ ((fd, listOf us.toArray n) :: rest)) (hoff : ∀ p ∈ rest, p.1 ≠ fd) (hz : us.length ≤ 8)
    (h : ∀ h' n', Fr h₀ L h' m → News h₀ L h' ((fd, listOf (us ++ [v]).toArray n') :: rest) → Q .none (.mk h' gn₁ dr₁ tk₁ os₁)) : wpAny (model prog w) A (call (.builtin "list.append") [.ref fd, v]) Q E (.mk hp₁ gn₁ dr₁ tk₁ os₁) :=
  append_K F N (.head hoff) (fun h' F' N' => h h' (n + 1) F' (by rw [← List.push_toArray]; exact N')) (by rw [List.size_toArray, sizeLine_eq]; omega)
theorem pl_eq {sg od p q fx fl : Int} {nds : List Nd} {ns : List Int} (h : plF sg od p q nds = (fx, fl, ns)) : PyData.list ((plF sg od p q nds).2.2.map PyData.int) = .list (ns.map PyData.int) := by rw [h]
inductive PlOut (led : List (Addr × Obj)) (d : PyData) (v : Value) (led' : List (Addr × Obj)) : Prop where
  | mk : ∀ fd us n ns, v = .ref fd → led' = (fd, listOf us.toArray n) :: led → (∀ p ∈ led, p.1 ≠ fd) → IntsAre us ns → d = .list (ns.map PyData.int) → PlOut led d v led'
set_option maxHeartbeats 8000000 in
theorem places_ (w : World) {bx dbx l rt : Addr} {a0 a1 a2 a3 a4 a5 a6 a7 a8 t0 t6 t7 t8 t9 : Tok} {vw vh vd vsh : Value} {sgX odX pX qX : Int} {vs : List Value} {nn : Nat} {nds : List Nd} {led : List (Addr × Obj)} (m0 : (bx, instObj 342 dbx) ∈ led) (m1 : (dbx, boxO w.params a0 a1 a2 a3 a4 a5 a6 a7 a8 (.int 3 t0) vw vh vd l vsh (.int sgX t6) (.int odX t7) rt) ∈ led) (m2 : (rt, tupO [.int pX t8, .int qX t9]) ∈ led)
    (q0 : 0 < qX) (q1 : qX ≤ 2000) (hl : (l, listOf vs.toArray nn) ∈ led) (hNs : NodesAt w.params led vs nds) (h8 : vs.length ≤ 8) :
    Say prog w (hd.heap_1 w.params) 590 [.ref bx] led 12 160 (PlOut led (.list ((plF sgX odX pX qX nds).2.2.map PyData.int))) := by
  refine say_in ?_
  intro p loose mean mg mb dp un gd cn cs a ccd cl outer A₀ base h₀ L m hp₀ gn₀ dr₀ tk₀ os₀ Q E B F X N T hk hd hu hret
  have hPar : PlPar sgX odX pX qX := trivial
  w_on
  refine wpAny_call ?_
  k_dflt ktr_enter
  repeat' (first
    | (k_unfold; (try dsimp only))
    | (k_end; wrow_close)
    | ((fail_if_success (with_reducible show wpAny _ _ _ _ _ _)); with_reducible ((k_dflt (refine' pl_next ?tb_24_5 ?tc_24_5 ?td_24_5 ?te_24_5 ?tf_24_5 ?tg_24_5; (case tb_24_5 => assumption); (case tc_24_5 => (rename News _ _ _ _ => lN9; exact lN9)); (case td_24_5 => exact rfl); (case te_24_5 => exact rfl); (case tf_24_5 => (intro z hz1 hz2 hz3; first | rfl | simp [hz1, hz2, hz3])); (case tg_24_5 => first | (with_reducible rename (_ : Int) = flexF _ _ _ _ _ _ => ek9; simp only [plStep, ek9]) | exact plStep_other (by assumption))))))
    | ((with_reducible show wpAny _ _ (call _ _) _ _ _); (try k_fold); first
      | with_reducible ((k_here; k_dflt (refine' app_led ?F_24_4 ?N_24_4 ?o_24_4 ?z_24_4 ?_; (case F_24_4 => k_asm); (case N_24_4 => with_reducible assumption); (case o_24_4 => k_all); (case z_24_4 => with_reducible assumption); k_whole); intro h' n' F' N'; (try k_sweep)))
      | with_reducible ((k_here; (with_reducible show wpAny _ _ (call (Value.ref 583) [Value.ref _, _]) _ _ _); k_dflt (refine' sayL_use (partsize_ _ ?m0_24_2 ?m1_24_2 ?kn_24_2 ?ks_24_2 ?h6_24_2) ?k1_24_2 ?k2_24_2 ?k3_24_2 ?k4_24_2 ?k5_24_2 ?kK_24_2 ?kd_24_2 ?ku_24_2 ?_; (case kn_24_2 => with_reducible assumption); (case k1_24_2 => k_asm); (case k2_24_2 => k_asm); (case k3_24_2 => k_asm); (case k4_24_2 => k_asm); (case k5_24_2 => k_asm); (case kK_24_2 => first | exact rfl | assumption); (case kd_24_2 => k_room); (case ku_24_2 => k_units); (case m0_24_2 => k_mem); (case m1_24_2 => k_mem); (case ks_24_2 => (intro p9 hp9; (with_reducible rename ∀ p ∈ _, p ∈ _ => hs9); (have h9 := hs9 p9 hp9); k_mem)); (case h6_24_2 => assumption); k_whole); intro v' h' tk' r' F' N'; obtain ⟨t', e'⟩ := r'; subst e'; (try k_sweep)))
      | with_reducible ((k_here; (with_reducible show wpAny _ _ (call (Value.ref 569) [Value.ref _, Value.ref _]) _ _ _); k_dflt (refine' sayL_use (flex_ _ ?m0_24_1 ?m1_24_1 ?m2_24_1 ?m3_24_1 ?h0_24_1 ?h1_24_1 ?f0_24_1 ?f1_24_1) ?k1_24_1 ?k2_24_1 ?k3_24_1 ?k4_24_1 ?k5_24_1 ?kK_24_1 ?kd_24_1 ?ku_24_1 ?_; (case k1_24_1 => k_asm); (case k2_24_1 => k_asm); (case k3_24_1 => k_asm); (case k4_24_1 => k_asm); (case k5_24_1 => k_asm); (case kK_24_1 => first | exact rfl | assumption); (case kd_24_1 => k_room); (case ku_24_1 => k_units); (case m0_24_1 => k_mem); (case m1_24_1 => k_mem); (case m2_24_1 => k_mem); (case m3_24_1 => k_mem); (case h0_24_1 => assumption); (case h1_24_1 => assumption); (case f0_24_1 => assumption); (case f1_24_1 => assumption); k_whole); intro v' h' tk' r' F' N'; obtain ⟨k', t', e', ek', b1', b2'⟩ := r'; subst e'; (try k_sweep)))
      | with_reducible ((k_here; (with_reducible show wpAny _ _ (call (Value.ref 576) [Value.ref _, Value.int _ _]) _ _ _); k_dflt (refine' sayL_use (setpart_ _ ?m0_24_0 ?m1_24_0 ?m2_24_0 ?h0_24_0 ?h1_24_0 ?f0_24_0 ?f1_24_0) ?k1_24_0 ?k2_24_0 ?k3_24_0 ?k4_24_0 ?k5_24_0 ?kK_24_0 ?kd_24_0 ?ku_24_0 ?_; (case k1_24_0 => k_asm); (case k2_24_0 => k_asm); (case k3_24_0 => k_asm); (case k4_24_0 => k_asm); (case k5_24_0 => k_asm); (case kK_24_0 => first | exact rfl | assumption); (case kd_24_0 => k_room); (case ku_24_0 => k_units); (case m0_24_0 => k_mem); (case m1_24_0 => k_mem); (case m2_24_0 => k_mem); (case h0_24_0 => assumption); (case h1_24_0 => assumption); (case f0_24_0 => omega); (case f1_24_0 => omega); k_whole); intro v' h' tk' r' F' N'; obtain ⟨t', e'⟩ := r'; subst e'; (try k_sweep)))
      | with_reducible ((k_here; (with_reducible show wpAny _ _ (call (Value.ref 541) [Value.ref _]) _ _ _); k_dflt (refine' column_use ?kn_10_2 ?kl_10_2 ?k1_10_2 ?k2_10_2 ?k3_10_2 ?k4_10_2 ?k5_10_2 ?kK_10_2 ?kd_10_2 ?ku_10_2 ?_; (case kn_10_2 => with_reducible assumption); (case kl_10_2 => with_reducible assumption); (case k1_10_2 => k_asm); (case k2_10_2 => k_asm); (case k3_10_2 => k_asm); (case k4_10_2 => k_asm); (case k5_10_2 => k_asm); (case kK_10_2 => first | exact rfl | assumption); (case kd_10_2 => k_room); (case ku_10_2 => k_units); k_whole); intro h' tk' F' N'; (try k_sweep))))
    | ((with_reducible show wpAny _ _ (pyIter _) _ _ _); with_reducible ((k_here; (with_reducible show wpAny _ _ (pyIter (Value.ref _)) (fun it s₂ => LoopAtV _ _ _ _ _ _ (Stmt.If _ _ _ _ :: Stmt.Expr _ _ :: _) _ _ it s₂) _ _); (with_reducible rename NodesAt _ _ _ _ => nX9); (with_reducible rename PlPar _ _ _ _ => hP9); focus (with_unfolding_all refine' pl_loop hP9 ?k0_24_3 ?k1_24_3 ?k2_24_3 ?k3_24_3 nX9 ?kl_24_3 ?k8_24_3 ?k4_24_3 ?k5_24_3 ?_ ?_; (case k0_24_3 => rfl); (case k1_24_3 => k_asm); (case k2_24_3 => exact cb_drop (by k_asm) (fun _ hp => List.mem_cons_of_mem _ hp)); (case k3_24_3 => k_mem); (case kl_24_3 => (intro p9 hp9; k_mem)); (case k8_24_3 => assumption); (case k4_24_3 => rfl); (case k5_24_3 => rfl); (intro v' nd' new' fx' tf' fl' tl' us' n' ns' h' tk' own' hN' hs' hi' hu' b0' b1' o1' F' N'; (obtain ⟨n1', n2', n3'⟩ := kind_in hN'); (try k_fold)); rotate_left; (intro fx' tf' fl' tl' us' n' ns' u' h' tk' hi' hp' F' N'; (try k_sweep); (try k_fold)); rotate_right))))
    | ((with_reducible show wpAny _ _ (getAttr _ _ _) _ _ _); (fail_if_success (with_reducible show wpAny _ _ (getAttr (Value.ref _) _ _) _ _ _)); (try k_fold); first
      | with_reducible ((k_here; (with_reducible show wpAny _ _ (getAttr _ (Str.ofString "kind") _) _ _ _); k_dflt (refine' kind_get ?k1_08_4 ?k2_08_4 ?k3_08_4 ?k4_08_4 ?k5_08_4 ?_; (case k1_08_4 => with_reducible assumption); (case k3_08_4 => k_asm); (case k4_08_4 => k_asm); (case k5_08_4 => k_asm); (case k2_08_4 => first | with_reducible assumption | (intro p9 hp9; (with_reducible rename ∀ p ∈ _, p ∈ _ => hs9); (have h9 := hs9 p9 hp9); k_mem)); k_whole); intro t' k'))
      | with_reducible ((k_here; (with_reducible rename NodeAt _ _ _ _ => hN9); (with_reducible rename ∀ p ∈ _, p ∈ _ => hs9); (have hNc := hN9); (have hsc := hs9); (first | induction hN9 | cases hN9) <;> first | exact absurd_kind (by with_reducible assumption) rfl | exact absurd_le (by with_reducible assumption) rfl | exact absurd_box (by with_reducible assumption) (by with_reducible assumption) rfl | exact absurd_nle (by with_reducible assumption) (by with_reducible assumption) | (exfalso; simp only [kindF] at *; omega) | (simp only [List.forall_mem_cons] at hs9; obtain ⟨m1', m2', m3'⟩ := hs9; (try (obtain ⟨m4', m5', -⟩ := m3'))))))
    | ((with_reducible show wpAny _ _ (eval (Expr.Name _ _) _) _ _ _); with_reducible (k_dflt (first | ((with_reducible show wpAny _ _ (eval (Expr.Name _ _) (envOf _ _ _ _ _)) _ _ _); first | (refine' ld ?k1_08_2 ?k2_08_2 ?_ (hk := rfl) (hl := ?kl_08_2) (hd := ?kd_08_2); (case kl_08_2 => kernel_rfl); (case k1_08_2 => with_reducible assumption); (case k2_08_2 => exact rfl); (case kd_08_2 => decide +kernel)) | (refine' name_K ?kF_08_2 ?k1_08_2 ?k2_08_2 ?k3_08_2 ?_ (hk := rfl) (hx := ?kl_08_2) (hd := ?kd_08_2); (case kF_08_2 => with_reducible assumption); (case k1_08_2 => with_reducible assumption); (case k2_08_2 => k_asm); (case k3_08_2 => k_is); (case kl_08_2 => kernel_rfl); (case kd_08_2 => decide +kernel); k_whole)))))
    | ((with_reducible show ite _ _ _); with_reducible ((k_closed; k_dflt (first | refine ite_pos (by decide) ?_ | refine ite_neg (by decide) ?_))))
    | walk1
    | (dsimp only; walk1)
    | (leave1; walk_say "STEP leave1"; try dsimp only)
    | fail "no step")
  all_goals exact hret _ _ _ _ (by k_asm) (cb_drop (by k_asm) (by kcf_all)) ⟨_, _, _, _, rfl, rfl, allLt_ne (by with_reducible assumption), by with_reducible assumption, pl_eq (by with_reducible assumption)⟩
theorem dlist_use {w : World} {l : Addr} {vs : List Value} {nn : Nat} {nds : List Nd} {nl led : List (Addr × Obj)} {p : Program} {loose : List Str} {mean : ExcName → Option Value} {mg mb : Str → Option Value} {dp un : Nat} {gd : Option (List Code)} {cn : Str} {cs : Scope} {ad : Addr} {ccd : Value} {cl : List (Str × Addr)} {outer : List Env} {A₀ : Around} {base h₀ : Heap} {L : Addr} {m : Str → Option Value} {hp₁ : Heap} {gn₁ : Array GenState} {dr₁ : Drawn} {tk₁ : Nat} {os₁ : OsState}
    {Q E : Value → Shared → Prop} (hl : (l, listOf vs.toArray nn) ∈ led) (hNs : NodesAt w.params nl vs nds) (hnl : ∀ p ∈ nl, p ∈ led) (h8 : vs.length ≤ 8) (B : Below A₀ base outer h₀) (F : Fr h₀ L hp₁ m) (X : (hd.heap_1 w.params).In h₀) (N : News h₀ L hp₁ led) (T : Top p loose mean mg mb h₀) (hk : cs.kind = .function)
    (hd : dp + 14 < recursionLimit) (hu : un + 200 < cLine)
    (ret : ∀ tp fr h' tk', Apart fr led → RdIn (fr ++ nl) (.ref tp) (.tuple (nds.map descD)) → Fr h₀ L h' m → News h₀ L h' (fr ++ led) → Q (.ref tp) (.mk h' gn₁ dr₁ tk' os₁)) :
    wpAny (model prog w) (ktrTop dp un gd cn cs L ad ccd cl outer) (call (.ref 483) [.ref l]) Q E (.mk hp₁ gn₁ dr₁ tk₁ os₁) := by
  refine dlist_ w hl hNs hnl h8 p loose mean mg mb dp un gd cn cs ad ccd cl outer A₀ base h₀ L m (.mk hp₁ gn₁ dr₁ tk₁ os₁) Q E B F X N T hk hd hu ?_
  rintro v led' h' tk' F' N' ⟨tp, rfl, fr, rfl, o, r⟩
  exact ret tp fr h' tk' o r F' N'
theorem places_use {w : World} {bx dbx l rt : Addr} {a0 a1 a2 a3 a4 a5 a6 a7 a8 t0 t6 t7 t8 t9 : Tok} {vw vh vd vsh : Value} {sgX odX pX qX : Int} {vs : List Value} {nn : Nat} {nds : List Nd} {nl led : List (Addr × Obj)} {p : Program} {loose : List Str} {mean : ExcName → Option Value} {mg mb : Str → Option Value} {dp un : Nat} {gd : Option (List Code)} {cn : Str} {cs : Scope} {ad : Addr} {ccd : Value} {cl : List (Str × Addr)} {outer : List Env} {A₀ : Around} {base h₀ : Heap} {L : Addr} {m : Str → Option Value} {hp₁ : Heap} {gn₁ : Array GenState} {dr₁ : Drawn} {tk₁ : Nat} {os₁ : OsState}
    {Q E : Value → Shared → Prop} (m0 : (bx, instObj 342 dbx) ∈ led) (m1 : (dbx, boxO w.params a0 a1 a2 a3 a4 a5 a6 a7 a8 (.int 3 t0) vw vh vd l vsh (.int sgX t6) (.int odX t7) rt) ∈ led) (m2 : (rt, tupO [.int pX t8, .int qX t9]) ∈ led)
    (q0 : 0 < qX) (q1 : qX ≤ 2000) (hl : (l, listOf vs.toArray nn) ∈ led) (hNs : NodesAt w.params nl vs nds) (hnl : ∀ p ∈ nl, p ∈ led) (h8 : vs.length ≤ 8) (B : Below A₀ base outer h₀) (F : Fr h₀ L hp₁ m) (X : (hd.heap_1 w.params).In h₀) (N : News h₀ L hp₁ led) (T : Top p loose mean mg mb h₀) (hk : cs.kind = .function)
    (hd : dp + 12 < recursionLimit) (hu : un + 160 < cLine)
    (ret : ∀ fd us n ns h' tk', (∀ p ∈ led, p.1 ≠ fd) → IntsAre us ns → ns = (plF sgX odX pX qX nds).2.2 → Fr h₀ L h' m → News h₀ L h' ((fd, listOf us.toArray n) :: led) → Q (.ref fd) (.mk h' gn₁ dr₁ tk' os₁)) :
    wpAny (model prog w) (ktrTop dp un gd cn cs L ad ccd cl outer) (call (.ref 590) [.ref bx]) Q E (.mk hp₁ gn₁ dr₁ tk₁ os₁) := by
  refine places_ w m0 m1 m2 q0 q1 hl (hNs.mono hnl) h8 p loose mean mg mb dp un gd cn cs ad ccd cl outer A₀ base h₀ L m (.mk hp₁ gn₁ dr₁ tk₁ os₁) Q E B F X N T hk hd hu ?_
  rintro v led' h' tk' F' N' ⟨fd, us, n, ns, rfl, rfl, o, hi, hd'⟩
  refine ret fd us n ns h' tk' o hi ?_ F' N'
  have e := PyData.list.inj hd'
  have inj : ∀ (a b : List Int), a.map PyData.int = b.map PyData.int → a = b := by
    intro a
    induction a with
    | nil => intro b h; cases b with
      | nil => rfl
      | cons _ _ => cases h
    | cons x r ih => intro b h; cases b with
      | nil => cases h
      | cons y t =>
        rw [List.map_cons, List.map_cons] at h
        injection h with h1 h2
        injection h1 with h1
        rw [h1, ih t h2]
  exact (inj _ _ e).symm
def seenD (wd sg od p q : Int) (nds : List Nd) : PyData := .tuple [.int 3, .int wd, .int 0, .int sg, .int od, .tuple [.int p, .int q], .tuple (nds.map descD), .list ((plF sg od p q nds).2.2.map PyData.int)]
abbrev SeenOut (led nl : List (Addr × Obj)) (d : PyData) (v : Value) (led' : List (Addr × Obj)) : Prop := ∃ sp fr, v = .ref sp ∧ led' = fr ++ led ∧ Apart fr led ∧ RdIn (fr ++ nl) (.ref sp) d
theorem seen_close {rt sp fd tp : Addr} {led nl fr : List (Addr × Obj)} {wd sg od p q : Int} {nds : List Nd} {us : List Value} {n : Nat} {ns : List Int} {t0 t1 t2 t3 t4 t8 t9 : Tok} (ap : Apart fr led) (hf : ∀ p ∈ fr ++ led, p.1 ≠ fd) (hs : ∀ p ∈ led, p.1 ≠ sp) (hi : IntsAre us ns) (he : ns = (plF sg od p q nds).2.2) (rd : RdIn (fr ++ nl) (.ref tp) (.tuple (nds.map descD))) :
    SeenOut led ((rt, tupO [.int p t8, .int q t9]) :: nl) (seenD wd sg od p q nds) (.ref sp) ((sp, tupO [.int 3 t0, .int wd t1, .int 0 t2, .int sg t3, .int od t4, .ref rt, .ref tp, .ref fd]) :: (fd, listOf us.toArray n) :: (fr ++ led)) := by
  refine ⟨sp, (sp, tupO [.int 3 t0, .int wd t1, .int 0 t2, .int sg t3, .int od t4, .ref rt, .ref tp, .ref fd]) :: (fd, listOf us.toArray n) :: fr, rfl, rfl, fun q hq p hp => ?_, ?_⟩
  · rcases List.mem_cons.mp hq with rfl | hq
    · exact hs p hp
    · rcases List.mem_cons.mp hq with rfl | hq
      · exact hf p (List.mem_append_right _ hp)
      · exact ap q hq p hp
  · refine RdIn.tup (List.mem_append_left _ (.head _)) (.cons .int (.cons .int (.cons .int (.cons .int (.cons .int (.cons ?_ (.cons ?_ (.cons ?_ .nil))))))))
    · exact RdIn.tup (List.mem_append_right _ (.head _)) (.cons .int (.cons .int .nil))
    · refine rd.mono fun p hp => ?_
      rcases List.mem_append.mp hp with hp | hp <;> simp [hp]
    · rw [← he]
      exact RdIn.lst (n := n) (List.mem_append_left _ (.tail _ (.head _))) (RdAll.ints hi)
set_option maxHeartbeats 8000000 in
theorem seen_ (w : World) {bx dbx l rt : Addr} {a0 a1 a2 a3 a4 a5 a6 a7 a8 t0 t2 t5 t6 t7 t8 t9 : Tok} {vh vd : Value} {wdX sgX odX pX qX : Int} {vs : List Value} {nn : Nat} {nds : List Nd} {nl led : List (Addr × Obj)} (m0 : (bx, instObj 342 dbx) ∈ led) (m1 : (dbx, boxO w.params a0 a1 a2 a3 a4 a5 a6 a7 a8 (.int 3 t0) (.int wdX t2) vh vd l (.int 0 t5) (.int sgX t6) (.int odX t7) rt) ∈ led) (m2 : (rt, tupO [.int pX t8, .int qX t9]) ∈ led)
    (q0 : 0 < qX) (q1 : qX ≤ 2000) (hl : (l, listOf vs.toArray nn) ∈ led) (hNs : NodesAt w.params nl vs nds) (hnl : ∀ p ∈ nl, p ∈ led) (h8 : vs.length ≤ 8) :
    Say prog w (hd.heap_1 w.params) 652 [.ref bx] led 18 240 (SeenOut led ((rt, tupO [.int pX t8, .int qX t9]) :: nl) (seenD wdX sgX odX pX qX nds)) := by
  refine say_in ?_
  intro p loose mean mg mb dp un gd cn cs a ccd cl outer A₀ base h₀ L m hp₀ gn₀ dr₀ tk₀ os₀ Q E B F X N T hk hd hu hret
  w_on
  refine wpAny_call ?_
  k_dflt ktr_enter
  repeat' (first
    | (k_unfold; (try dsimp only))
    | (k_end; wrow_close)
    | ((with_reducible show wpAny _ _ (call _ _) _ _ _); (try k_fold); first
      | with_reducible ((k_here; (with_reducible show wpAny _ _ (call (Value.ref 590) [Value.ref _]) _ _ _); (with_reducible rename NodesAt _ _ _ _ => nX9); k_dflt (refine' places_use ?m0_25_1 ?m1_25_1 ?m2_25_1 ?q0_25_1 ?q1_25_1 ?m3_25_1 nX9 ?l_25_1 ?z_25_1 ?k1_25_1 ?k2_25_1 ?k3_25_1 ?k4_25_1 ?k5_25_1 ?kK_25_1 ?kd_25_1 ?ku_25_1 ?_; (case k1_25_1 => k_asm); (case k2_25_1 => k_asm); (case k3_25_1 => k_asm); (case k4_25_1 => k_asm); (case k5_25_1 => k_asm); (case kK_25_1 => first | exact rfl | assumption); (case kd_25_1 => k_room); (case ku_25_1 => k_units); (case m0_25_1 => k_mem); (case m1_25_1 => k_mem); (case m2_25_1 => k_mem); (case m3_25_1 => k_mem); (case q0_25_1 => assumption); (case q1_25_1 => assumption); (case z_25_1 => with_reducible assumption); (case l_25_1 => (intro p9 hp9; (with_reducible rename ∀ p ∈ _, p ∈ _ => hs9); (have h9 := hs9 p9 hp9); k_mem)); k_whole); intro fd' us' n' ns' h' tk' off' hi' he' F' N'))
      | with_reducible ((k_here; (with_reducible show wpAny _ _ (call (Value.ref 483) [Value.ref _]) _ _ _); (with_reducible rename NodesAt _ _ _ _ => nX9); k_dflt (refine' dlist_use ?m1_25_0 nX9 ?l_25_0 ?z_25_0 ?k1_25_0 ?k2_25_0 ?k3_25_0 ?k4_25_0 ?k5_25_0 ?kK_25_0 ?kd_25_0 ?ku_25_0 ?_; (case k1_25_0 => k_asm); (case k2_25_0 => k_asm); (case k3_25_0 => k_asm); (case k4_25_0 => k_asm); (case k5_25_0 => k_asm); (case kK_25_0 => first | exact rfl | assumption); (case kd_25_0 => k_room); (case ku_25_0 => k_units); (case m1_25_0 => k_mem); (case z_25_0 => with_reducible assumption); (case l_25_0 => (intro p9 hp9; (with_reducible rename ∀ p ∈ _, p ∈ _ => hs9); (have h9 := hs9 p9 hp9); k_mem)); k_whole); intro tp' fr' h' tk' ap' rd' F' N')))
    | ((with_reducible show wpAny _ _ (eval (Expr.Name _ _) _) _ _ _); with_reducible (k_dflt (first | ((with_reducible show wpAny _ _ (eval (Expr.Name _ _) (envOf _ _ _ _ _)) _ _ _); first | (refine' ld ?k1_08_2 ?k2_08_2 ?_ (hk := rfl) (hl := ?kl_08_2) (hd := ?kd_08_2); (case kl_08_2 => kernel_rfl); (case k1_08_2 => with_reducible assumption); (case k2_08_2 => exact rfl); (case kd_08_2 => decide +kernel)) | (refine' name_K ?kF_08_2 ?k1_08_2 ?k2_08_2 ?k3_08_2 ?_ (hk := rfl) (hx := ?kl_08_2) (hd := ?kd_08_2); (case kF_08_2 => with_reducible assumption); (case k1_08_2 => with_reducible assumption); (case k2_08_2 => k_asm); (case k3_08_2 => k_is); (case kl_08_2 => kernel_rfl); (case kd_08_2 => decide +kernel); k_whole)))))
    | walk1
    | (dsimp only; walk1)
    | (leave1; walk_say "STEP leave1"; try dsimp only)
    | fail "no step")
  all_goals (with_reducible rename AllLt _ (_ ++ _) => la9)
  all_goals exact hret _ _ _ _ (by k_asm) (by k_asm) (seen_close (by with_reducible assumption) (by with_reducible assumption) (fun p hp => allLt_ne la9 p (List.mem_append_right _ hp)) (by with_reducible assumption) (by with_reducible assumption) (by with_reducible assumption))
theorem hangX_use {w : World} {bx dbx l rt : Addr} {a0 a1 a2 a3 a4 a5 a6 a7 a8 u1 u2 : Tok} {vk vw vsh vg vo v0 : Value} {h d : Int} {vr : List Value} {nn : Nat} {nd : Nd} {new rest : List (Addr × Obj)}
    (m0 : (bx, instObj 342 dbx) ∈ rest) (ml : (l, listOf (v0 :: vr).toArray nn) ∈ rest) (hN : NodeAt w.params v0 nd new) (hsub : ∀ p ∈ new, p ∈ rest) (hoff : ∀ p ∈ rest, p.1 ≠ dbx)
    {p : Program} {loose : List Str} {mean : ExcName → Option Value} {mg mb : Str → Option Value} {dp un : Nat} {gd : Option (List Code)} {cn : Str} {cs : Scope} {ad : Addr} {ccd : Value} {cl : List (Str × Addr)} {outer : List Env} {A₀ : Around} {base h₀ : Heap} {L : Addr} {m : Str → Option Value} {hp₁ : Heap} {gn₁ : Array GenState} {dr₁ : Drawn} {tk₁ : Nat} {os₁ : OsState} {Q E : Value → Shared → Prop}
    (B : Below A₀ base outer h₀) (F : Fr h₀ L hp₁ m) (X : (hd.heap_1 w.params).In h₀) (N : News h₀ L hp₁ ((dbx, boxO w.params a0 a1 a2 a3 a4 a5 a6 a7 a8 vk vw (.int h u1) (.int d u2) l vsh vg vo rt) :: rest)) (T : Top p loose mean mg mb h₀) (hk : cs.kind = .function) (hd : dp + 14 < recursionLimit) (hu : un + 200 < cLine)
    (ret : ∀ h' tk' u1 u2, -1073741823 ≤ h + d - heightF nd → h + d - heightF nd ≤ 1073741823 → Fr h₀ L h' m → News h₀ L h' ((dbx, boxO w.params a0 a1 a2 a3 a4 a5 a6 a7 a8 vk vw (.int (heightF nd) u1) (.int (h + d - heightF nd) u2) l vsh vg vo rt) :: rest) → Q .none (.mk h' gn₁ dr₁ tk' os₁))
    (err : ∀ g₂ e h' tk', ¬ (-1073741823 ≤ h + d - heightF nd ∧ h + d - heightF nd ≤ 1073741823) → Fr h₀ L g₂ m → RaisedSN base g₂ (envX cn cs L ad ccd cl :: outer) e (.ref 64) ((dbx, boxO w.params a0 a1 a2 a3 a4 a5 a6 a7 a8 vk vw (.int h u1) (.int d u2) l vsh vg vo rt) :: rest) h' → g₂.UpToSlots h' → E (.ref e) (.mk h' gn₁ dr₁ tk' os₁)) :
    wpAny (model prog w) (ktrTop dp un gd cn cs L ad ccd cl outer) (call (.ref 519) [.ref bx]) Q E (.mk hp₁ gn₁ dr₁ tk₁ os₁) := by
  refine hangX w m0 ml hN hsub hoff p loose mean mg mb dp un gd cn cs ad ccd cl outer A₀ base h₀ L m (.mk hp₁ gn₁ dr₁ tk₁ os₁) Q E B F X N T hk hd hu ?_ err
  rintro v led' h' tk' F' N' ⟨rfl, ⟨b1, b2⟩, u1', u2', rfl⟩
  exact ret h' tk' u1' u2' b1 b2 F' N'
set_option maxHeartbeats 8000000 in
theorem hungX (w : World) {bx dbx l rt : Addr} {a0 a1 a2 a3 a4 a5 a6 a7 a8 u1 u2 : Tok} {vk vw vsh vg vo v0 : Value} {h d : Int} {vr : List Value} {nn : Nat} {nd : Nd} {new rest : List (Addr × Obj)}
    (m0 : (bx, instObj 342 dbx) ∈ rest) (ml : (l, listOf (v0 :: vr).toArray nn) ∈ rest) (hN : NodeAt w.params v0 nd new) (hsub : ∀ p ∈ new, p ∈ rest) (hoff : ∀ p ∈ rest, p.1 ≠ dbx)
    {p : Program} {loose : List Str} {mean : ExcName → Option Value} {mg mb : Str → Option Value} {dp un : Nat} {gd : Option (List Code)} {cn : Str} {cs : Scope} {ad : Addr} {ccd : Value} {A₀ : Around} {base h₀ : Heap} {L : Addr} {m : Str → Option Value} {hp₁ : Heap} {gn₁ : Array GenState} {dr₁ : Drawn} {tk₁ : Nat} {os₁ : OsState} {Q E : Value → Shared → Prop}
    (B : Below A₀ base [] h₀) (XB : (hd.heap_1 w.params).In base) (TB : Top p loose mean mg mb base) (F : Fr h₀ L hp₁ m) (X : (hd.heap_1 w.params).In h₀) (N : News h₀ L hp₁ ((dbx, boxO w.params a0 a1 a2 a3 a4 a5 a6 a7 a8 vk vw (.int h u1) (.int d u2) l vsh vg vo rt) :: rest)) (T : Top p loose mean mg mb h₀) (hk : cs.kind = .function)
    (hd : dp + 20 < recursionLimit) (hu : un + 260 < cLine)
    (retT : -1073741823 ≤ h + d - heightF nd → h + d - heightF nd ≤ 1073741823 → ∀ h' tk' u1 u2, Fr h₀ L h' m → News h₀ L h' ((dbx, boxO w.params a0 a1 a2 a3 a4 a5 a6 a7 a8 vk vw (.int (heightF nd) u1) (.int (h + d - heightF nd) u2) l vsh vg vo rt) :: rest) → Q (.bool true) (.mk h' gn₁ dr₁ tk' os₁))
    (retF : ¬ (-1073741823 ≤ h + d - heightF nd ∧ h + d - heightF nd ≤ 1073741823) → ∀ h' tk', Fr h₀ L h' m → News h₀ L h' ((dbx, boxO w.params a0 a1 a2 a3 a4 a5 a6 a7 a8 vk vw (.int h u1) (.int d u2) l vsh vg vo rt) :: rest) → Q (.bool false) (.mk h' gn₁ dr₁ tk' os₁)) :
    wpAny (model prog w) (ktrTop dp un gd cn cs L ad ccd [] []) (call (.ref 659) [.ref bx]) Q E (.mk hp₁ gn₁ dr₁ tk₁ os₁) := by
  w_on
  refine wpAny_call ?_
  k_dflt (refine' code_defS0 ?k1 ?k2 ?k3 ?k4 ?k5 ?kA ?k6 ?k7 ?k8 ?k9 ?kB ?_ ?cK ?c2 ?c3 ?c4 ?c5; (case kA => exact rfl); (case k2 => k_asm); (case k1 => k_asm); (case k3 => k_asm); (case k4 => k_asm); (case k5 => k_asm); (case k6 => k_is); (case k7 => k_is); (case k8 => k_room); (case k9 => first | exact binds_K (by k_in) rfl (by k_is) rfl rfl rfl | exact BindsTo.of_eq rfl); (case kB => exact locs rfl); (case cK => assumption); (case c2 => exact rfl); (case c3 => exact rfl); (case c4 => exact rfl); (case c5 => decide); k_whole; intro g' L' h' FG' F' N' B' X' T' D'; (try dsimp only); (try k_fold))
  repeat' (first
    | (k_unfold; (try dsimp only))
    | (k_end; wrow_close)
    | ((with_reducible show wpAny _ _ (call _ _) _ _ _); (try k_fold); with_reducible ((k_here; (with_reducible show wpAny _ _ (call (Value.ref 519) [Value.ref _]) _ _ _); (with_reducible rename NodeAt _ _ _ _ => nN9); focus (k_dflt (refine' hangX_use ?m0_26_0 ?ml_26_0 nN9 ?hs_26_0 ?ho_26_0 ?k1_26_0 ?k2_26_0 ?k3_26_0 ?k4_26_0 ?k5_26_0 ?kK_26_0 ?kd_26_0 ?ku_26_0 ?_ ?_; (case k1_26_0 => k_asm); (case k2_26_0 => k_asm); (case k3_26_0 => k_asm); (case k4_26_0 => with_reducible assumption); (case k5_26_0 => k_asm); (case kK_26_0 => first | exact rfl | assumption); (case kd_26_0 => k_room); (case ku_26_0 => k_units); (case m0_26_0 => with_reducible assumption); (case ml_26_0 => with_reducible assumption); (case hs_26_0 => with_reducible assumption); (case ho_26_0 => with_reducible assumption)); (intro h' tk' u1' u2' b1' b2' F' N'; (try k_sweep)); rotate_left; (intro g9' e9' h9' tk9' hz9' FG9' R9' hs9'); rotate_right))))
    | ((with_reducible show wpAny _ _ (eval (Expr.Name _ _) _) _ _ _); with_reducible (k_dflt (first | ((with_reducible show wpAny _ _ (eval (Expr.Name _ _) (envOf _ _ _ _ _)) _ _ _); first | (refine' ld ?k1_08_2 ?k2_08_2 ?_ (hk := rfl) (hl := ?kl_08_2) (hd := ?kd_08_2); (case kl_08_2 => kernel_rfl); (case k1_08_2 => with_reducible assumption); (case k2_08_2 => exact rfl); (case kd_08_2 => decide +kernel)) | (refine' name_K ?kF_08_2 ?k1_08_2 ?k2_08_2 ?k3_08_2 ?_ (hk := rfl) (hx := ?kl_08_2) (hd := ?kd_08_2); (case kF_08_2 => with_reducible assumption); (case k1_08_2 => with_reducible assumption); (case k2_08_2 => k_asm); (case k3_08_2 => k_is); (case kl_08_2 => kernel_rfl); (case kd_08_2 => decide +kernel); k_whole)))))
    | walk1
    | (dsimp only; walk1)
    | (leave1; walk_say "STEP leave1"; try dsimp only)
    | fail "no step")
  all_goals first
    | exact retT (by assumption) (by assumption) _ _ _ _ (by k_asm) (by k_asm)
    | exact retF (by assumption) _ _ (by k_asm) (by k_asm)
section
variable {prog : Program} {w : World} {A₀ A : Around} {s : Shared} {base h₀ : Heap} {L a : Addr} {m : Str → Option Value} {cn : Str} {cs : Scope} {ccd : Value} {news : List (Addr × Obj)} {K : Frag} {p : Program} {loose : List Str} {mean : ExcName → Option Value} {mg mb : Str → Option Value}
    {R : Result → Shared → Prop} {name qual : Str} {params : Arguments} {body : List Stmt} {scope : Scope} {dV kV doc pm cdv ct oc : Value} {an od : Option Addr} {osl : Array (Option Value)} {f : Addr} {args : Args} {binds : List (Str × Value)}
theorem code_defC0 (B : Below A₀ base [] h₀) (F : Fr h₀ L s.heap m) (X₀ : K.In h₀) (N : News h₀ L s.heap news) (T : Top p loose mean mg mb h₀) (hA : A.frames = some [envOf cn cs L a ccd])
    (ho : K.lookup f = some ⟨oc, od, .func (fnOf name qual params body scope dV kV doc pm an cdv ct), osl⟩) (hcd : codeIn K cdv qual = true) (hroom : A.depth < recursionLimit)
    (hbind : BindsTo s (fnOf name qual params body scope dV kV doc pm an cdv ct) args binds) (hkind : (binds.all fun y => scope.names.lookup y.1 == some .local || scope.names.lookup y.1 == some .cell) = true)
    (hnd : ((cellsFrom 0 scope.names []).map (·.1)).Nodup)
    (h : ∀ g L' h₁ tk cells, Fr h₀ L g m → Fr g L' h₁ (bindL (envOfC qual scope L' f cdv).kindOf binds fun _ => none) → News g L' h₁ (cells ++ news) →
      CellsAre (bindC (envOfC qual scope L' f cdv).kindOf binds fun _ => none) (cellsFrom (L' + 1) scope.names []) cells → Below A base [envOf cn cs L a ccd] g → K.In g → Top p loose mean mg mb g → KtsDicts ([envOf cn cs L a ccd].filterMap (·.frame)) g → (∀ p ∈ news, p.1 < L') →
      wpAny (model prog w) (A.deeper (envOfC qual scope L' f cdv)) (execs body (envOfC qual scope L' f cdv))
        (fun fl s' => LeaveS0 ([envOf cn cs L a ccd].filterMap (·.frame)) h₀ L m g R (match fl with | .ret v => v | _ => .none) s')
        (fun e s' => wpAny (model prog w) (A.deeper (envOfC qual scope L' f cdv)) (leaving (envOfC qual scope L' f cdv) e) (fun _ s'' => R (.error e) s'') (fun e' s'' => R (.error e') s'') s')
        { s with heap := h₁, toks := tk })
    (hck : cs.kind = .function) (hco : scope.isCoroutine = false) (hgen : scope.isGenerator = false) (hk : scope.kind = .function) : codeAny (model prog w) A (.call (.ref f) args) R s := by
  have X := X₀.keeps F.keep
  obtain ⟨oL, es, ep, hLg, hLd, hN, hNs, st, B₂⟩ := kts_enter B F N hA hck
  refine codeAny_call_function (body := body) hroom (X _ _ ho) rfl hco hgen rfl (codeRec_of X hcd) (hbind _ _ _ _ ?_)
  refine wpAny_newFunctionEnv_cells hk (kindsX hkind _) fun env' he s' x => ?_
  subst he
  refine ⟨(T.nolimit.keeps F.keep).keeps x.toInCall.keep, codeAny_func ?_⟩
  obtain ⟨h₁, tk, rfl, _⟩ := x.done
  have hk₁ := x.toInCall.keep
  obtain ⟨cells, NC, Y⟩ := Cl.news (h₀ := s.heap) (Nat.le_refl _) fun n c hm => ⟨x.cell n c (lookup_of_mem_nodup (cellsFrom_names scope.names 0 (s.heap.objs.size + 1) [] [] rfl ▸ hnd) hm), x.above n c hm⟩
  refine wpAny_mono (h _ s.heap.objs.size h₁ tk cells ⟨hN _ hLg, st, F.above⟩ ⟨x.toInCall.ns, fun b o e => hk₁ b o (of_hideAll _ e), Nat.le_of_eq (hideAll_size _ _)⟩ (fun p hp => ?_) Y B₂ (X₀.keeps st) (T.keeps st) (fun b hb => by
      rcases kts_mem hb with rfl | z
      · exact ⟨oL, es, ep, hLg, hLd⟩
      · simp at z) (fun p hp => Heap.lt_size (N p hp).1)) (fun fl s' hl => ?_) fun _ _ y => y
  · rcases List.mem_append.mp hp with hp | hp
    · refine ⟨(NC p hp).1, (NC p hp).2.1, ?_⟩
      cases q : (hideAll s.heap (news.map (·.1))).get? p.1 with
      | none => rfl
      | some o => have := of_hideAll _ q; rw [(NC p hp).2.2] at this; cases this
    · exact ⟨hk₁ _ _ (N p hp).1, Nat.ne_of_lt (Heap.lt_size (N p hp).1), hideAll_none _ (List.mem_map_of_mem hp)⟩
  obtain ⟨g', L', m', news', T', F', N', k⟩ := hl
  have nL₀ : h₀.get? L = none := kts_self F
  obtain ⟨sl, hs⟩ := T'.up hLg
  refine k ⟨hNs sl _ (F'.keep _ _ hs), fun b o e => F'.keep b o (T'.other b o (st b o e) (fun q => by
    rcases kts_mem q with z | z
    · rw [z, nL₀] at e
      cases e
    · simp at z)), F.above⟩ fun p hp => ⟨(N' p hp).1, fun q => ?_, ?_⟩
  · have := (N' p hp).2.2; rw [q, hs] at this; cases this
  · cases q : h₀.get? p.1 with
    | none => rfl
    | some o =>
      obtain ⟨sl', hs'⟩ := T'.up (st _ _ q)
      have := (N' p hp).2.2
      rw [hs'] at this
      cases this
end
theorem raisedX {base G h : Heap} {name : Str} {scope : Scope} {L a : Addr} {cd : Value} {cl : List (Str × Addr)} {outer : List Env} {e : Addr} {cls : Value} {news : List (Addr × Obj)} (R : RaisedSN base G (envX name scope L a cd cl :: outer) e cls news h) : RaisedSN base G (envOf name scope L a cd :: outer) e cls news h := by
  obtain ⟨B, a0, hB, hG, hl, h1, h2, h3, h4⟩ := R
  exact ⟨B, a0, hB, hG, hl, h1, h2, h3, h4⟩
section
variable {prog : Program} {w : World} {A₀ : Around} {E : Value → Shared → Prop} {s' : Shared} {base g g₀ G : Heap} {outer : List Env} {L a e : Addr} {m : Str → Option Value} {name : Str} {scope : Scope} {cd cls c : Value} {cl : List (Str × Addr)}
  {b₀ : Stmt} {suite : List Stmt} {pos np : Pos} {rest : List ExceptHandler} {Q : Flow → Shared → Prop} {news : List (Addr × Obj)} {KF : Frag}
  {p : Program} {loose : List Str} {mean : ExcName → Option Value} {mg mb : Str → Option Value} {x : Str}
theorem caughtC (R : RaisedSN base G (envX name scope L a cd cl :: outer) e cls news s'.heap) (F : Fr g L G m) (K : Below A₀ base outer g) (hsm : G.UpToSlots s'.heap) (XB : KF.In base) (TB : Top p loose mean mg mb base)
    (D : KtsDicts (outer.filterMap (·.frame)) g) (T0 : KtsTurn (outer.filterMap (·.frame)) g₀ g)
    (ex : nsIn KF mainGlobals x = some (some c)) (he : exmOne KF cls c = some true)
    (k : ∀ h' g', KtsTurn (outer.filterMap (·.frame)) g₀ g' → Fr g' L h' m → News g' L h' news → Below A₀ base outer g' → KF.In g' → Top p loose mean mg mb g' → KtsDicts (outer.filterMap (·.frame)) g' →
      wpAny (model prog w) ((A₀.deeper (envX name scope L a cd cl)).mark (some (.ref e))) (execs (b₀ :: suite) (envX name scope L a cd cl)) Q E { s' with heap := h' })
    (hk : scope.kind = .function) (hx : (envX name scope L a cd cl).kindOf x = some .globalImplicit) (hd : (x == ("__debug__" : Str)) = false)
    (hE : PassesOwnAt (model prog w) ((A₀.deeper (envX name scope L a cd cl)).mark (some (.ref e))) (A₀.deeper (envX name scope L a cd cl)) (envX name scope L a cd cl) E) :
    wpAny (model prog w) (A₀.deeper (envX name scope L a cd cl)) (noteFrame (.ref e) (envX name scope L a cd cl))
      (fun _ s₂ => wpAny (model prog w) (A₀.deeper (envX name scope L a cd cl)) (setFlight (.ref e) none) (fun _ s₃ =>
        wpAny (model prog w) (A₀.deeper (envX name scope L a cd cl)) (handleBy (.ref e) (envX name scope L a cd cl) (.ExceptHandler (some (.Name x np)) none (b₀ :: suite) pos :: rest)) Q E s₃) E s₂) E s' := by
  obtain ⟨B, a0, hB, hBG, hl, hfl⟩ := R
  refine wpAny_looks_onW (Around.frames_deeper K.stack) rfl hfl fun h₄ hheld₄ hsm₄ => ?_
  refine wpAny_landsW hheld₄ fun h₅ hheld hsm₅' => ?_
  have hsm₅ := hsm.trans (hsm₄.trans hsm₅')
  have R5 : RaisedSN base G (envX name scope L a cd cl :: outer) e cls news h₅ := ⟨B, a0, hB, hBG, hl, hheld⟩
  have R5' := raisedX R5
  have hBG' : ∀ b o, G.get? b = some o → b ∉ (envOf name scope L a cd :: outer).filterMap (·.frame) → B.get? b = some o := hBG
  obtain ⟨g₅, T₅, F₅, K₅⟩ := kts_ground K F hBG' hheld.1 hsm₅
  refine wpAny_handleBy_cons (codeAny_handlers_test (nameX_K F₅ (XB.keeps K₅.stays) (topRead_of (TB.keeps K₅.stays)) ex ((exm_one ((XB.keeps K₅.stays).keeps F₅.keep) R5'.ty he).here ?_) hk hx hd)) (by intro q; cases q)
  have hL : B.get? L = none := by
    obtain ⟨_, ⟨L', _, hf, hn', _⟩, _⟩ := hheld.2.2.1
    obtain rfl : L = L' := Option.some.inj hf
    exact hn'
  refine codeAny_handlers_suite ?_
  refine lands_againW hheld fun h₆ hfl₆ hsm₆ => ?_
  obtain ⟨g₆, T₆, F₆, K₆⟩ := kts_ground K F hBG' hfl₆.1 (hsm₅.trans hsm₆)
  have Nl : News g₆ L h₆ news := fun q hq => ⟨hfl₆.1 _ _ (hl q hq).1, (fun z => by have := (hl q hq).1; rw [z, hL] at this; cases this), T₆.none_ _ (kts_none F.keep (hl q hq).2.1)⟩
  exact wpAny_passesOwnAt hE (k h₆ g₆ (T0.trans T₆) F₆ Nl K₆ (XB.keeps K₆.stays) (TB.keeps K₆.stays) (D.turn T₆))
end
theorem ov_caught (P : Params) : exmOne (hd.heap_1 P) (.ref 64) (.ref 64) = some true := by kernel_rfl
theorem ov_name (P : Params) : nsIn (hd.heap_1 P) mainGlobals (Str.ofString "Overflow") = some (some (.ref 64)) := by kernel_rfl
theorem range_small {k : Int} (h0 : 1 ≤ k) (h1 : k ≤ 8) : Builtin.Range.small 0 k 1 = true := by
  have e : ((k.toNat : Nat) : Int) = k := Int.toNat_of_nonneg (Int.le_trans (by decide) h0)
  have h : k.toNat < 9 := by omega
  have a : ∀ n : Nat, n < 9 → Builtin.Range.small 0 ((n : Nat) : Int) 1 = true := by decide
  rw [← e]
  exact a _ h
section
open PyProof.Rows.LCg
variable {prog : Program} {w : World} {A : Around} {E : Value → Shared → Prop} {h₀ : Heap} {L : Addr} {m : Str → Option Value} {env : Env}
inductive MdEnd (P : Params) (h₀ : Heap) (L : Addr) (m : Str → Option Value) (s₁ : Shared) (pl : Addr) (oth : List (Addr × Obj)) (y : Value) (s₂ : Shared) : Prop where
  | mk : ∀ nd new a ta b tb h' tk', s₂ = { s₁ with heap := h', toks := tk' } → Fr h₀ L h' m → News h₀ L h' (new ++ (pl, poolO a ta b tb) :: oth) → NodeAt P y nd new → AboveAll pl oth new → PoolOk a b → MdEnd P h₀ L m s₁ pl oth y s₂
theorem md_src {elt : PySem.Expr} {x : Str} {scope : Scope} {cl : List (Str × Addr)} {Fin : Shared → List Value → List (Addr × Obj) → Prop} {r pl : Addr} {cst : List (Addr × Obj)} {s₁ : Shared} {k a b : Int} {t u v ta tb : Tok}
    (hh : A.handled = none) (F : Fr h₀ L s₁.heap m) (N : News h₀ L s₁.heap ((pl, poolO a ta b tb) :: cst)) (hr : IsRange s₁.heap r 0 k 1 t u v) (k1 : 1 ≤ k) (k8 : k ≤ 8) (hoff : ∀ p ∈ cst, p.1 ≠ pl) (hp : PoolOk a b)
    (turn : ∀ j t0 I oI C oC D ys nl a ta b tb m₂ h tk E', NsObj oC m₂ → m₂ x = some (.int j t0) → Fr h₀ L h m → News h₀ L h ((pl, poolO a ta b tb) :: ((I, oI) :: (C, oC) :: (D, lst ys) :: (nl ++ cst))) → (∀ p ∈ (I, oI) :: (C, oC) :: (D, lst ys) :: (nl ++ cst), p.1 ≠ pl) → PoolOk a b →
      wpAny (model prog w) A (eval elt (compEnvC scope cl C env)) (MdEnd w.params h₀ L m { s₁ with heap := h, toks := tk } pl ((I, oI) :: (C, oC) :: (D, lst ys) :: (nl ++ cst))) E' { s₁ with heap := h, toks := tk })
    (fin : ∀ g ys nl nds a ta b tb, NodesAt w.params nl ys nds → 1 ≤ ys.length → ys.length ≤ 8 → PoolOk a b → (∀ p ∈ nl ++ cst, p.1 ≠ pl) → Fin { s₁ with heap := g } ys ((pl, poolO a ta b tb) :: (nl ++ cst))) :
    CompSrc prog w A h₀ L m env elt x scope cl Fin (.ref r) s₁ := by
  have hz : Builtin.Range.rangeSize 0 k 1 = ((k.toNat : Nat) : Int) := by rw [rangeSize_nat]; simp
  refine CompSrc.range hh F N hr (range_small k1 k8) hz (by rw [sizeLine_eq]; omega) fun g => ?_
  refine comp_fold (fun i ys nx => ∃ nl nds a ta b tb, nx = (pl, poolO a ta b tb) :: (nl ++ cst) ∧ NodesAt w.params nl ys nds ∧ ys.length = i ∧ PoolOk a b ∧ ∀ p ∈ nl, p.1 ≠ pl) ?_ ?_ _ 0 [] _ (Nat.zero_add _) ⟨[], [], a, ta, b, tb, rfl, .nil, rfl, hp, fun _ h => nomatch h⟩
  · rintro i ys nx v I oI C oC D m₂ h tk E' hi ⟨nl, nds, a, ta, b, tb, rfl, hNs, hyl, hp', hnl⟩ ⟨t0, rfl⟩ hC hx F₁ N₁ off ne
    have offm := off.mem
    have hpl := offm (pl, poolO a ta b tb) (.head _)
    have ho : ∀ p ∈ (I, oI) :: (C, oC) :: (D, lst ys) :: (nl ++ cst), p.1 ≠ pl := by
      intro p hp
      rcases List.mem_cons.mp hp with rfl | hp
      · exact hpl.1.symm
      rcases List.mem_cons.mp hp with rfl | hp
      · exact hpl.2.1.symm
      rcases List.mem_cons.mp hp with rfl | hp
      · exact hpl.2.2.symm
      rcases List.mem_append.mp hp with hp | hp
      · exact hnl p hp
      · exact hoff p hp
    refine wpAny_mono (turn _ t0 I oI C oC D ys nl a ta b tb m₂ h tk E' hC hx F₁ (fun p hp => N₁ p (by
      rcases List.mem_cons.mp hp with rfl | hp
      · simp
      rcases List.mem_cons.mp hp with rfl | hp
      · simp
      rcases List.mem_cons.mp hp with rfl | hp
      · simp
      rcases List.mem_cons.mp hp with rfl | hp
      · simp
      · simp only [List.mem_cons]; exact .inr (.inr (.inr (.inr hp))))) ho hp') (fun y s₂ hy => ?_) fun _ _ e => e
    obtain ⟨nd, new, a', ta', b', tb', h', tk', rfl, F', N', hN, ab, hp2⟩ := hy
    have abn : ∀ q ∈ new, ∀ p ∈ (I, oI) :: (C, oC) :: (D, lst ys) :: (nl ++ cst), p.1 ≠ q.1 := fun q hq p hp => allLt_ne (ab q hq).2 p hp
    refine CompEnd.intro F' N' ((pl, poolO a' ta' b' tb') :: ((new ++ nl) ++ cst)) (fun p hp => ?_) (Off3.of fun p hp => ?_) trivial ⟨new ++ nl, nds ++ [nd], a', ta', b', tb', rfl, ?_, by simp [hyl], hp2, fun p hp => ?_⟩
    · simp only [List.mem_cons, List.mem_append] at hp ⊢
      rcases hp with h | h | h | h | (h | h) | h <;> simp [h]
    · rcases List.mem_cons.mp hp with rfl | hp
      · exact hpl
      rcases List.mem_append.mp hp with hp | hp
      · rcases List.mem_append.mp hp with hp | hp
        · exact ⟨(abn p hp (I, oI) (by simp)).symm, (abn p hp (C, oC) (by simp)).symm, (abn p hp (D, lst ys) (by simp)).symm⟩
        · exact offm p (.tail _ (List.mem_append_left _ hp))
      · exact offm p (.tail _ (List.mem_append_right _ hp))
    · have snoc : ∀ {vs : List Value} {ds : List Nd} {led : List (Addr × Obj)}, NodesAt w.params led vs ds → ∀ {v nd new}, NodeAt w.params v nd new → (∀ p ∈ new, p ∈ led) → NodesAt w.params led (vs ++ [v]) (ds ++ [nd]) := by
        intro vs ds led x
        induction x with
        | nil => intro v nd new a b; exact .cons a b .nil
        | cons h1 h2 _ ih => intro v nd new a b; exact .cons h1 h2 (ih a b)
      exact snoc (hNs.mono fun p hp => List.mem_append_right _ hp) hN fun p hp => List.mem_append_left _ hp
    · rcases List.mem_append.mp hp with hp | hp
      · exact (Nat.ne_of_lt (ab p hp).1).symm
      · exact hnl p hp
  · rintro ys nx ⟨nl, nds, a, ta, b, tb, rfl, hNs, hyl, hp', hnl⟩
    exact fin g ys nl nds a ta b tb hNs (by omega) (by omega) hp' (fun p hp => (List.mem_append.mp hp).elim (hnl p) (hoff p))
end
theorem sub_pair {w : World} {A : Around} {E : Value → Shared → Prop} {s : Shared} {u : Tok} {Q : Value → Shared → Prop} {h₀ : Heap} {L tp : Addr} {news : List (Addr × Obj)} {v v2 : Value} {value slice : PySem.Expr} (N : News h₀ L s.heap news) (hm : (tp, tupO [v, v2]) ∈ news) (h : Q v s)
    (hs : subscripted slice false (.ref tp) (.int 0 u) = operate [.ref tp, .int 0 u] (getItem (.ref tp) (.int 0 u)) := by with_unfolding_all rfl) :
    wpAny (model prog w) A (subscriptTail value slice (.ref tp) (.int 0 u)) Q E s := by
  have ht : IsTup s.heap tp [v, v2].toArray := tup_at N hm
  exact item_tupleT (j := 0) ht (by decide) (by decide) rfl rfl h hs
def RangeAt (h : Heap) (r : Addr) (n : Int) (t1 t2 t3 : Tok) : Prop := IsRange h r 0 n 1 t1 t2 t3
theorem call_range {w : World} {A : Around} {E : Value → Shared → Prop} {hp₁ : Heap} {gn₁ : Array GenState} {dr₁ : Drawn} {tk₁ : Nat} {os₁ : OsState} {h₀ : Heap} {L : Addr} {m : Str → Option Value} {news : List (Addr × Obj)} {n : Int} {t : Tok} {Q : Value → Shared → Prop} (F : Fr h₀ L hp₁ m) (N : News h₀ L hp₁ news)
    (h : ∀ r h' tk' t1 t2 t3, Fr h₀ L h' m → News h₀ L h' news → RangeAt h' r n t1 t2 t3 → Q (.ref r) (.mk h' gn₁ dr₁ tk' os₁)) : wpAny (model prog w) A (call (.type "range") [.int n t]) Q E (.mk hp₁ gn₁ dr₁ tk₁ os₁) :=
  call_range_1 (h _ _ _ _ _ _ (F.push _) (fun p hp => ⟨Heap.get?_push_of_some _ (N p hp).1, (N p hp).2⟩) (Heap.get?_push_size _ rfl))
theorem news_swap {h₀ h : Heap} {L : Addr} {x y : Addr × Obj} {r : List (Addr × Obj)} (N : News h₀ L h (x :: y :: r)) : News h₀ L h (y :: x :: r) := fun p hp => N p (by
  simp only [List.mem_cons] at hp ⊢
  rcases hp with h | h | h <;> simp [h])
theorem part_use {w : World} {pl : Addr} {a b : Int} {ta tb : Tok} {fb : Bool} {oth : List (Addr × Obj)} {p : Program} {loose : List Str} {mean : ExcName → Option Value} {mg mb : Str → Option Value} {dp un : Nat} {gd : Option (List Code)} {cn : Str} {cs : Scope} {ad : Addr} {ccd : Value} {cl : List (Str × Addr)} {outer : List Env} {A₀ : Around} {base h₀ : Heap} {L : Addr} {m : Str → Option Value} {hp₁ : Heap} {gn₁ : Array GenState} {dr₁ : Drawn} {tk₁ : Nat} {os₁ : OsState}
    {Q E : Value → Shared → Prop} (hoff : ∀ p ∈ oth, p.1 ≠ pl) (hp : PoolOk a b) (B : Below A₀ base outer h₀) (F : Fr h₀ L hp₁ m) (X : (hd.heap_1 w.params).In h₀) (N : News h₀ L hp₁ ((pl, poolO a ta b tb) :: oth)) (T : Top p loose mean mg mb h₀) (hk : cs.kind = .function)
    (hd : dp + 9 < recursionLimit) (hu : un + 120 < cLine)
    (ret : ∀ y nd new a ta b tb h' tk', NodeAt w.params y nd new → AboveAll pl oth new → PoolOk a b → Fr h₀ L h' m → News h₀ L h' (new ++ (pl, poolO a ta b tb) :: oth) → Q y (.mk h' gn₁ dr₁ tk' os₁)) :
    wpAny (model prog w) (ktrTop dp un gd cn cs L ad ccd cl outer) (call (.ref 640) [.ref pl, .bool fb]) Q E (.mk hp₁ gn₁ dr₁ tk₁ os₁) := by
  refine part_ w pl a b ta tb fb oth hoff hp p loose mean mg mb dp un gd cn cs ad ccd cl outer A₀ base h₀ L m (.mk hp₁ gn₁ dr₁ tk₁ os₁) Q E B F X N T hk hd hu ?_
  rintro v led' h' tk' F' N' ⟨nd, new, a', ta', b', tb', hN, hsub, ab, hp'⟩
  exact ret v nd new a' ta' b' tb' h' tk' hN ab hp' F' (cb_drop N' hsub)
theorem vpack_use {w : World} {l : Addr} {vs : List Value} {nn : Nat} {nds : List Nd} {mode am most : Int} {t1 t2 t3 : Tok} {nl led : List (Addr × Obj)} {p : Program} {loose : List Str} {mean : ExcName → Option Value} {mg mb : Str → Option Value} {dp un : Nat} {gd : Option (List Code)} {cn : Str} {cs : Scope} {ad : Addr} {ccd : Value} {cl : List (Str × Addr)} {outer : List Env} {A₀ : Around} {base h₀ : Heap} {L : Addr} {m : Str → Option Value} {hp₁ : Heap} {gn₁ : Array GenState} {dr₁ : Drawn} {tk₁ : Nat} {os₁ : OsState}
    {Q E : Value → Shared → Prop} (hl : (l, listOf vs.toArray nn) ∈ led) (hNs : NodesAt w.params nl vs nds) (hnl : ∀ p ∈ nl, p ∈ led) (hv : 1 ≤ vs.length) (h8 : vs.length ≤ 8)
    (hm0 : 0 ≤ mode) (hm1 : mode ≤ 1) (ha0 : -1073741823 ≤ am) (ha1 : am ≤ 1073741823) (hb0 : 0 ≤ most) (hb1 : most ≤ 1073741823) (B : Below A₀ base outer h₀) (F : Fr h₀ L hp₁ m) (X : (hd.heap_1 w.params).In h₀) (N : News h₀ L hp₁ led) (T : Top p loose mean mg mb h₀) (hk : cs.kind = .function)
    (hd : dp + 16 < recursionLimit) (hu : un + 200 < cLine)
    (ret : ∀ (tp bx dbx rp rt : Addr) (a0 a1 a2 a3 a4 a5 a6 a7 a8 t1 t2 t3 t4 t5 t6 t7 t8 t9 : Tok) (wd h d sg od p q : Int) h' tk', AllLt dbx led → @LT.lt Nat _ dbx bx → @LT.lt Nat _ dbx rt → @LT.lt Nat _ dbx tp → 0 < q → q ≤ 2000 → -1073741823 ≤ h → h ≤ 1073741823 → -1073741823 ≤ d → d ≤ 1073741823 → Fr h₀ L h' m →
      News h₀ L h' ((tp, tupO [.ref bx, .ref rp]) :: (bx, instObj 342 dbx) :: (dbx, boxO w.params a0 a1 a2 a3 a4 a5 a6 a7 a8 (.int 3 t1) (.int wd t2) (.int h t3) (.int d t4) l (.int 0 t5) (.int sg t6) (.int od t7) rt) :: (rt, tupO [.int p t8, .int q t9]) :: led) → Q (.ref tp) (.mk h' gn₁ dr₁ tk' os₁))
    (err : ∀ g₂ e h' tk', Fr h₀ L g₂ m → RaisedSN base g₂ (envX cn cs L ad ccd cl :: outer) e (.ref 64) led h' → g₂.UpToSlots h' → E (.ref e) (.mk h' gn₁ dr₁ tk' os₁)) :
    wpAny (model prog w) (ktrTop dp un gd cn cs L ad ccd cl outer) (call (.ref 612) [.ref l, .int mode t1, .int am t2, .int most t3]) Q E (.mk hp₁ gn₁ dr₁ tk₁ os₁) := by
  refine vpackX w hl (hNs.mono hnl) (by omega) h8 hm0 hm1 ha0 ha1 hb0 hb1 p loose mean mg mb dp un gd cn cs ad ccd cl outer A₀ base h₀ L m (.mk hp₁ gn₁ dr₁ tk₁ os₁) Q E B F X N T hk hd hu ?_ (fun g₂ e h' tk' _ => err g₂ e h' tk')
  rintro v led' h' tk' F' N' ⟨tp, bx, dbx, rp, rt, a0, a1, a2, a3, a4, a5, a6, a7, a8, t1, t2, t3, t4, t5, t6, t7, t8, t9, wd, h, d, sg, od, p, q, rfl, rfl, l1, l2, l3, l4, z1, z2, z3, z4, z5, z6⟩
  exact ret tp bx dbx rp rt a0 a1 a2 a3 a4 a5 a6 a7 a8 t1 t2 t3 t4 t5 t6 t7 t8 t9 wd h d sg od p q h' tk' l1 l2 l3 l4 z1 z2 z3 z4 z5 z6 F' N'
set_option maxHeartbeats 8000000 in
theorem madeX (w : World) {pl : Addr} {a b : Int} {ta tb : Tok} {rest : List (Addr × Obj)} (hoff : ∀ p ∈ rest, p.1 ≠ pl) (hp : PoolOk a b)
    {p : Program} {loose : List Str} {mean : ExcName → Option Value} {mg mb : Str → Option Value} {dp un : Nat} {gd : Option (List Code)} {cn : Str} {cs : Scope} {ad : Addr} {ccd : Value} {A₀ : Around} {base h₀ : Heap} {L : Addr} {m : Str → Option Value} {hp₁ : Heap} {gn₁ : Array GenState} {dr₁ : Drawn} {tk₁ : Nat} {os₁ : OsState} {Q E : Value → Shared → Prop}
    (B : Below A₀ base [] h₀) (XB : (hd.heap_1 w.params).In base) (TB : Top p loose mean mg mb base) (F : Fr h₀ L hp₁ m) (X : (hd.heap_1 w.params).In h₀) (N : News h₀ L hp₁ ((pl, poolO a ta b tb) :: rest)) (T : Top p loose mean mg mb h₀) (hk : cs.kind = .function)
    (hdp : dp + 30 < recursionLimit) (hu : un + 400 < cLine)
    (retN : ∀ a ta b tb h' tk', PoolOk a b → Fr h₀ L h' m → News h₀ L h' ((pl, poolO a ta b tb) :: rest) → Q .none (.mk h' gn₁ dr₁ tk' os₁))
    (retB : ∀ (bx dbx rt l : Addr) (a0 a1 a2 a3 a4 a5 a6 a7 a8 t1 t2 t3 t4 t5 t6 t7 t8 t9 : Tok) (wd h d sg od p q : Int) (ys : List Value) (nl : List (Addr × Obj)) (nds : List Nd) a ta b tb h' tk', PoolOk a b → NodesAt w.params nl ys nds → 1 ≤ ys.length → ys.length ≤ 8 → (∀ p ∈ nl, p.1 ≠ pl) → (∀ p ∈ nl, p.1 ≠ dbx) → l ≠ dbx → pl ≠ dbx → (∀ p ∈ rest, p.1 ≠ dbx) → @LT.lt Nat _ dbx bx → @LT.lt Nat _ dbx rt → 0 < q → q ≤ 2000 → -1073741823 ≤ h → h ≤ 1073741823 → -1073741823 ≤ d → d ≤ 1073741823 → Fr h₀ L h' m →
      News h₀ L h' ((dbx, boxO w.params a0 a1 a2 a3 a4 a5 a6 a7 a8 (.int 3 t1) (.int wd t2) (.int h t3) (.int d t4) l (.int 0 t5) (.int sg t6) (.int od t7) rt) :: (bx, instObj 342 dbx) :: (rt, tupO [.int p t8, .int q t9]) :: (l, listOf ys.toArray ys.length) :: (pl, poolO a ta b tb) :: (nl ++ rest)) → Q (.ref bx) (.mk h' gn₁ dr₁ tk' os₁)) :
    wpAny (model prog w) (ktrTop dp un gd cn cs L ad ccd [] []) (call (.ref 645) [.ref pl]) Q E (.mk hp₁ gn₁ dr₁ tk₁ os₁) := by
  w_on
  refine wpAny_call ?_
  k_dflt (refine' code_defC0 ?k1 ?k2 ?k3 ?k4 ?k5 ?kA ?k6 ?k7 ?k8 ?k9 ?kB ?kD ?_ ?cK ?c2 ?c3 ?c4; (case kA => exact rfl); (case k2 => k_asm); (case k1 => k_asm); (case k3 => k_asm); (case k4 => k_asm); (case k5 => k_asm); (case k6 => k_is); (case k7 => k_is); (case k8 => k_room); (case k9 => first | exact BindsTo.of_eq rfl | exact binds_K (by k_in) rfl (by k_is) rfl rfl rfl); (case kB => exact rfl); (case kD => decide +kernel); (case cK => assumption); (case c2 => exact rfl); (case c3 => exact rfl); (case c4 => exact rfl); k_whole; intro g' L' h' tk' cells' FG' F' N' Y' B' X' T' D' l1; (try k_lt l1); k_cells Y'; (try simp only [List.cons_append, List.nil_append] at N'); (try dsimp only); (try k_fold))
  repeat' (first
    | (k_unfold; (try dsimp only))
    | (k_end; wrow_close)
    | ((with_reducible show wpAny _ _ (call _ _) _ _ _); (try k_fold); first
      | with_reducible ((k_here; (with_reducible show wpAny _ _ (call (Value.ref 612) [Value.ref _, Value.int _ _, Value.int _ _, Value.int _ _]) _ _ _); (with_reducible rename NodesAt _ _ _ _ => nX9); focus (k_dflt (refine' vpack_use ?hl_28_5 nX9 ?hn_28_5 ?hv_28_5 ?h8_28_5 ?hm0_28_5 ?hm1_28_5 ?ha0_28_5 ?ha1_28_5 ?hb0_28_5 ?hb1_28_5 ?k1_28_5 ?k2_28_5 ?k3_28_5 ?k4_28_5 ?k5_28_5 ?kK_28_5 ?kd_28_5 ?ku_28_5 ?_ ?_; (case k1_28_5 => k_asm); (case k2_28_5 => k_asm); (case k3_28_5 => k_asm); (case k4_28_5 => k_asm); (case k5_28_5 => k_asm); (case kK_28_5 => first | exact rfl | assumption); (case kd_28_5 => k_room); (case ku_28_5 => k_units); (case hl_28_5 => k_mem); (case hn_28_5 => (intro p9 hp9; k_mem)); (case hv_28_5 => assumption); (case h8_28_5 => assumption); (case hm0_28_5 => omega); (case hm1_28_5 => omega); (case ha0_28_5 => omega); (case ha1_28_5 => omega); (case hb0_28_5 => omega); (case hb1_28_5 => omega)); (intro tp' bx' dbx' rp' rt' a0' a1' a2' a3' a4' a5' a6' a7' a8' t1' t2' t3' t4' t5' t6' t7' t8' t9' wd' hh' dd' sg' od' pp' qq' h' tk' l1' l2' l3' l4' z1' z2' z3' z4' z5' z6' F' N'); rotate_left; (intro g9' e9' h9' tk9' FG9' R9' hs9'); rotate_right)))
      | with_reducible ((k_here; (with_reducible show wpAny _ _ (call (Value.ref 640) [Value.ref _, Value.bool _]) _ _ _); k_dflt (refine' part_use ?ho_28_3 ?hp_28_3 ?k1_28_3 ?k2_28_3 ?k3_28_3 ?k4_28_3 ?k5_28_3 ?kK_28_3 ?kd_28_3 ?ku_28_3 ?_; (case k1_28_3 => k_asm); (case k2_28_3 => k_asm); (case k3_28_3 => k_asm); (case k4_28_3 => k_asm); (case k5_28_3 => k_asm); (case kK_28_3 => first | exact rfl | assumption); (case kd_28_3 => k_room); (case ku_28_3 => k_units); (case ho_28_3 => with_reducible assumption); (case hp_28_3 => with_reducible assumption); k_whole); intro y' nd' new' a' ta' b' tb' h' tk' hN' ab' hp' F' N'))
      | with_reducible ((k_here; (with_reducible show wpAny _ _ (call (Value.type "range") [Value.int _ _]) _ _ _); k_dflt (refine' call_range ?F_28_1 ?N_28_1 ?_; (case F_28_1 => k_asm); (case N_28_1 => k_asm); k_whole); intro r' h' tk' t1' t2' t3' F' N' hr'; (try k_sweep)))
      | with_reducible ((k_here; (with_reducible show wpAny _ _ (call (Value.ref 633) [Value.ref _]) _ _ _); k_dflt (refine' sayPool_use (sizeP _ _) ?k1_04_0 ?k2_04_0 ?k3_04_0 ?k4_04_0 ?k5_04_0 ?kK_04_0 ?kU_04_0 ?kp_04_0 ?kd_04_0 ?ku_04_0 ?_; (case k1_04_0 => k_asm); (case k2_04_0 => k_asm); (case k3_04_0 => k_asm); (case k4_04_0 => k_asm); (case k5_04_0 => k_asm); (case kK_04_0 => first | exact rfl | assumption); (case kU_04_0 => k_updF); (case kp_04_0 => assumption); (case kd_04_0 => k_room); (case ku_04_0 => k_units); k_whole); intro v' a' ta' b' tb' h' tk' r' hp' F' N'; obtain ⟨k', t', e', k0', k1'⟩ := r'; subst e'; (try dsimp only at N'); (try k_sweep)))
      | with_reducible ((k_here; (with_reducible show wpAny _ _ (call (Value.ref 626) [Value.ref _, Value.int _ _]) _ _ _); k_dflt (refine' take_use ?k1_02_0 ?k2_02_0 ?k3_02_0 ?k4_02_0 ?k5_02_0 ?kK_02_0 ?kU_02_0 ?kp_02_0 ?kn_02_0 ?km_02_0 ?kd_02_0 ?ku_02_0 ?_; (case k1_02_0 => k_asm); (case k2_02_0 => k_asm); (case k3_02_0 => k_asm); (case k4_02_0 => k_asm); (case k5_02_0 => k_asm); (case kK_02_0 => first | exact rfl | assumption); (case kU_02_0 => k_updF); (case kp_02_0 => assumption); (case kn_02_0 => decide); (case km_02_0 => decide); (case kd_02_0 => k_room); (case ku_02_0 => k_units); k_whole); intro k' t' a' ta' b' tb' h' tk' hp' k0' k1' F' N'; (try dsimp only at N'); (try k_sweep))))
    | ((fail_if_success (with_reducible show wpAny _ _ _ _ _ _)); with_reducible ((k_dflt (refine' ⟨_, _, _, _, _, _, _, _, ?a_28_4, ?b_28_4, ?c_28_4, ?d_28_4, ?e_28_4, ?f_28_4⟩; (case a_28_4 => exact rfl); (case b_28_4 => assumption); (case c_28_4 => assumption); (case d_28_4 => assumption); (case e_28_4 => assumption); (case f_28_4 => assumption)))))
    | ((fail_if_success (with_reducible show wpAny _ _ _ _ _ _)); with_reducible ((k_here; (with_reducible rename RangeAt _ _ _ _ _ _ => hr9); focus (k_dflt (refine' md_src ?a_28_2 ?F_28_2 ?N_28_2 hr9 ?k1_28_2 ?k8_28_2 ?ho_28_2 ?hp_28_2 ?_ ?_; (case a_28_2 => exact rfl); (case F_28_2 => k_asm); (case N_28_2 => exact news_swap (by k_asm)); (case k1_28_2 => omega); (case k8_28_2 => omega); (case ho_28_2 => k_all); (case hp_28_2 => assumption)); (intro j' t0' I' oI' C' oC' D' ys' nl' a' ta' b' tb' m' h' tk' E' hC' hx' F' N' ho' hp'); rotate_left; (intro g9' ys' nl' nds' a' ta' b' tb' hNs' z1' z8' hp' ho'; (try dsimp only)); rotate_right))))
    | ((with_reducible show wpAny _ _ (subscriptTail _ _ _ _) _ _ _); first
      | with_reducible ((k_here; (with_reducible show wpAny _ _ (subscriptTail _ _ (Value.ref _) (Value.int 0 _)) _ _ _); (with_unfolding_all refine' sub_pair ?k1_28_0 ?k2_28_0 ?_ ?k6_28_0; (case k1_28_0 => k_asm); (case k2_28_0 => with_reducible exact List.mem_cons_self); (case k6_28_0 => with_unfolding_all rfl); k_whole)))
      | with_reducible ((k_here; (with_reducible show wpAny _ _ (subscriptTail _ _ (Value.ref _) (Value.int _ _)) _ _ _); (with_unfolding_all refine' sub_any ?k1_03_4 ?k2_03_4 ?k3_03_4 ?k4_03_4 ?kn_03_4 ?k5_03_4 ?_ ?k6_03_4; (case k1_03_4 => k_asm); (case k2_03_4 => k_mem); (case k3_03_4 => with_reducible assumption); (case k4_03_4 => with_reducible assumption); (case kn_03_4 => rfl); (case k5_03_4 => decide); (case k6_03_4 => with_unfolding_all rfl); k_whole); intro v' hv'; (try ((have h9 := ints_mem hv'); (have h8 := h9 rfl); clear h9 hv'; obtain ⟨k', t', e', hk'⟩ := h8; subst e'; simp only [List.map_cons, List.map_nil, intOf, List.mem_cons, List.not_mem_nil, or_false] at hk')))))
    | ((with_reducible show wpAny _ _ (binaryOp _ _ _) _ _ _); with_reducible (first | with_reducible refine pow_2_30 ?_ | with_reducible refine pow_10_18 ?_ | with_reducible refine pow_10_120 ?_))
    | walk1
    | (dsimp only; walk1)
    | (leave1; walk_say "STEP leave1"; try dsimp only)
    | fail "no step")
  · with_reducible rename AllLt _ _ => la9
    with_reducible rename ∀ p : Addr × Obj, p ∈ (_ ++ _ : List (Addr × Obj)) → p.1 ≠ pl => ho9
    refine' retB _ _ _ _ _ _ _ _ _ _ _ _ _ _ _ _ _ _ _ _ _ _ _ _ _ _ _ _ _ _ _ _ _ _ _ _ _ _ ?xp ?xN ?x1 ?x8 ?xa ?xb ?xc ?xd ?xe ?xf ?xg ?xq ?xr ?xh ?xi ?xj ?xk ?xF (cb_drop ?xM ?xm)
    case xM => k_asm
    case xN => with_reducible assumption
    case xm =>
      refine List.forall_mem_cons.mpr ⟨by k_mem, List.forall_mem_cons.mpr ⟨by k_mem, List.forall_mem_cons.mpr ⟨by k_mem, List.forall_mem_cons.mpr ⟨by k_mem, List.forall_mem_cons.mpr ⟨by k_mem, fun q9 hq9 => ?_⟩⟩⟩⟩⟩
      rcases List.mem_append.mp hq9 with hq9 | hq9 <;> k_mem
    case xF => k_asm
    case xa => exact fun p hp => ho9 p (List.mem_append_left _ hp)
    case xb => exact fun p hp => allLt_ne la9 p (by k_mem)
    case xc => exact allLt_ne la9 (_, LCg.lst _) (by k_mem)
    case xd => exact allLt_ne la9 (_, poolO _ _ _ _) (by k_mem)
    case xe => exact fun p hp => allLt_ne la9 p (by k_mem)
    all_goals with_reducible assumption
  · with_reducible rename RaisedSN _ _ _ _ _ _ _ => R9
    with_reducible rename Heap.UpToSlots _ _ => hs9
    refine caughtC (c := .ref 64) (KF := hd.heap_1 w.params) R9 (by assumption) (by assumption) hs9 XB TB (by assumption) KtsTurn.refl (ov_name _) (ov_caught _) ?_ rfl rfl (by decide) (by passes_own)
    intro h9' g9' T9' F9' N9' K9' X9' P9' D9'
    repeat' (first
    | (k_unfold; (try dsimp only))
    | (k_end; wrow_close)
    | ((with_reducible show wpAny _ _ (call _ _) _ _ _); (try k_fold); first
      | with_reducible ((k_here; (with_reducible show wpAny _ _ (call (Value.ref 612) [Value.ref _, Value.int _ _, Value.int _ _, Value.int _ _]) _ _ _); (with_reducible rename NodesAt _ _ _ _ => nX9); focus (k_dflt (refine' vpack_use ?hl_28_5 nX9 ?hn_28_5 ?hv_28_5 ?h8_28_5 ?hm0_28_5 ?hm1_28_5 ?ha0_28_5 ?ha1_28_5 ?hb0_28_5 ?hb1_28_5 ?k1_28_5 ?k2_28_5 ?k3_28_5 ?k4_28_5 ?k5_28_5 ?kK_28_5 ?kd_28_5 ?ku_28_5 ?_ ?_; (case k1_28_5 => k_asm); (case k2_28_5 => k_asm); (case k3_28_5 => k_asm); (case k4_28_5 => k_asm); (case k5_28_5 => k_asm); (case kK_28_5 => first | exact rfl | assumption); (case kd_28_5 => k_room); (case ku_28_5 => k_units); (case hl_28_5 => k_mem); (case hn_28_5 => (intro p9 hp9; k_mem)); (case hv_28_5 => assumption); (case h8_28_5 => assumption); (case hm0_28_5 => omega); (case hm1_28_5 => omega); (case ha0_28_5 => omega); (case ha1_28_5 => omega); (case hb0_28_5 => omega); (case hb1_28_5 => omega)); (intro tp' bx' dbx' rp' rt' a0' a1' a2' a3' a4' a5' a6' a7' a8' t1' t2' t3' t4' t5' t6' t7' t8' t9' wd' hh' dd' sg' od' pp' qq' h' tk' l1' l2' l3' l4' z1' z2' z3' z4' z5' z6' F' N'); rotate_left; (intro g9' e9' h9' tk9' FG9' R9' hs9'); rotate_right)))
      | with_reducible ((k_here; (with_reducible show wpAny _ _ (call (Value.ref 640) [Value.ref _, Value.bool _]) _ _ _); k_dflt (refine' part_use ?ho_28_3 ?hp_28_3 ?k1_28_3 ?k2_28_3 ?k3_28_3 ?k4_28_3 ?k5_28_3 ?kK_28_3 ?kd_28_3 ?ku_28_3 ?_; (case k1_28_3 => k_asm); (case k2_28_3 => k_asm); (case k3_28_3 => k_asm); (case k4_28_3 => k_asm); (case k5_28_3 => k_asm); (case kK_28_3 => first | exact rfl | assumption); (case kd_28_3 => k_room); (case ku_28_3 => k_units); (case ho_28_3 => with_reducible assumption); (case hp_28_3 => with_reducible assumption); k_whole); intro y' nd' new' a' ta' b' tb' h' tk' hN' ab' hp' F' N'))
      | with_reducible ((k_here; (with_reducible show wpAny _ _ (call (Value.type "range") [Value.int _ _]) _ _ _); k_dflt (refine' call_range ?F_28_1 ?N_28_1 ?_; (case F_28_1 => k_asm); (case N_28_1 => k_asm); k_whole); intro r' h' tk' t1' t2' t3' F' N' hr'; (try k_sweep)))
      | with_reducible ((k_here; (with_reducible show wpAny _ _ (call (Value.ref 633) [Value.ref _]) _ _ _); k_dflt (refine' sayPool_use (sizeP _ _) ?k1_04_0 ?k2_04_0 ?k3_04_0 ?k4_04_0 ?k5_04_0 ?kK_04_0 ?kU_04_0 ?kp_04_0 ?kd_04_0 ?ku_04_0 ?_; (case k1_04_0 => k_asm); (case k2_04_0 => k_asm); (case k3_04_0 => k_asm); (case k4_04_0 => k_asm); (case k5_04_0 => k_asm); (case kK_04_0 => first | exact rfl | assumption); (case kU_04_0 => k_updF); (case kp_04_0 => assumption); (case kd_04_0 => k_room); (case ku_04_0 => k_units); k_whole); intro v' a' ta' b' tb' h' tk' r' hp' F' N'; obtain ⟨k', t', e', k0', k1'⟩ := r'; subst e'; (try dsimp only at N'); (try k_sweep)))
      | with_reducible ((k_here; (with_reducible show wpAny _ _ (call (Value.ref 626) [Value.ref _, Value.int _ _]) _ _ _); k_dflt (refine' take_use ?k1_02_0 ?k2_02_0 ?k3_02_0 ?k4_02_0 ?k5_02_0 ?kK_02_0 ?kU_02_0 ?kp_02_0 ?kn_02_0 ?km_02_0 ?kd_02_0 ?ku_02_0 ?_; (case k1_02_0 => k_asm); (case k2_02_0 => k_asm); (case k3_02_0 => k_asm); (case k4_02_0 => k_asm); (case k5_02_0 => k_asm); (case kK_02_0 => first | exact rfl | assumption); (case kU_02_0 => k_updF); (case kp_02_0 => assumption); (case kn_02_0 => decide); (case km_02_0 => decide); (case kd_02_0 => k_room); (case ku_02_0 => k_units); k_whole); intro k' t' a' ta' b' tb' h' tk' hp' k0' k1' F' N'; (try dsimp only at N'); (try k_sweep))))
    | ((fail_if_success (with_reducible show wpAny _ _ _ _ _ _)); with_reducible ((k_dflt (refine' ⟨_, _, _, _, _, _, _, _, ?a_28_4, ?b_28_4, ?c_28_4, ?d_28_4, ?e_28_4, ?f_28_4⟩; (case a_28_4 => exact rfl); (case b_28_4 => assumption); (case c_28_4 => assumption); (case d_28_4 => assumption); (case e_28_4 => assumption); (case f_28_4 => assumption)))))
    | ((fail_if_success (with_reducible show wpAny _ _ _ _ _ _)); with_reducible ((k_here; (with_reducible rename RangeAt _ _ _ _ _ _ => hr9); focus (k_dflt (refine' md_src ?a_28_2 ?F_28_2 ?N_28_2 hr9 ?k1_28_2 ?k8_28_2 ?ho_28_2 ?hp_28_2 ?_ ?_; (case a_28_2 => exact rfl); (case F_28_2 => k_asm); (case N_28_2 => exact news_swap (by k_asm)); (case k1_28_2 => omega); (case k8_28_2 => omega); (case ho_28_2 => k_all); (case hp_28_2 => assumption)); (intro j' t0' I' oI' C' oC' D' ys' nl' a' ta' b' tb' m' h' tk' E' hC' hx' F' N' ho' hp'); rotate_left; (intro g9' ys' nl' nds' a' ta' b' tb' hNs' z1' z8' hp' ho'; (try dsimp only)); rotate_right))))
    | ((with_reducible show wpAny _ _ (subscriptTail _ _ _ _) _ _ _); first
      | with_reducible ((k_here; (with_reducible show wpAny _ _ (subscriptTail _ _ (Value.ref _) (Value.int 0 _)) _ _ _); (with_unfolding_all refine' sub_pair ?k1_28_0 ?k2_28_0 ?_ ?k6_28_0; (case k1_28_0 => k_asm); (case k2_28_0 => with_reducible exact List.mem_cons_self); (case k6_28_0 => with_unfolding_all rfl); k_whole)))
      | with_reducible ((k_here; (with_reducible show wpAny _ _ (subscriptTail _ _ (Value.ref _) (Value.int _ _)) _ _ _); (with_unfolding_all refine' sub_any ?k1_03_4 ?k2_03_4 ?k3_03_4 ?k4_03_4 ?kn_03_4 ?k5_03_4 ?_ ?k6_03_4; (case k1_03_4 => k_asm); (case k2_03_4 => k_mem); (case k3_03_4 => with_reducible assumption); (case k4_03_4 => with_reducible assumption); (case kn_03_4 => rfl); (case k5_03_4 => decide); (case k6_03_4 => with_unfolding_all rfl); k_whole); intro v' hv'; (try ((have h9 := ints_mem hv'); (have h8 := h9 rfl); clear h9 hv'; obtain ⟨k', t', e', hk'⟩ := h8; subst e'; simp only [List.map_cons, List.map_nil, intOf, List.mem_cons, List.not_mem_nil, or_false] at hk')))))
    | ((with_reducible show wpAny _ _ (binaryOp _ _ _) _ _ _); with_reducible (first | with_reducible refine pow_2_30 ?_ | with_reducible refine pow_10_18 ?_ | with_reducible refine pow_10_120 ?_))
    | walk1
    | (dsimp only; walk1)
    | (leave1; walk_say "STEP leave1"; try dsimp only)
    | fail "no step")
    exact retN _ _ _ _ _ _ (by assumption) (by k_asm) (cb_drop (by k_asm) (List.forall_mem_cons.mpr ⟨by k_mem, fun q9 hq9 => by k_mem⟩))
theorem if_twice {x1 y : Str} {v r : Option Value} : (if y = x1 then v else if y = x1 then v else r) = if y = x1 then v else r := by
  by_cases h : y = x1
  · rw [if_pos h, if_pos h]
  · rw [if_neg h]
structure PoS where
  a : Int
  ta : Tok
  b : Int
  tb : Tok
section
variable {w : World} {A : Around} {E : Value → Shared → Prop} {s : Shared} {env : Env} {h₀ : Heap} {body : List Stmt} {Q : Flow → Shared → Prop}
def PoEnd (h₀ : Heap) (L : Addr) (m₀ : Str → Option Value) (pl : Addr) (cst : List (Addr × Obj)) (i : Nat) (s₁ : Shared) (Q : Flow → Shared → Prop) (f : Flow) (s₂ : Shared) : Prop :=
  match f with
  | .ret v => Q (.ret v) s₂
  | .brk => Q .next s₂
  | _ => ∃ h' tk m' a ta b tb, s₂ = { s₁ with heap := h', toks := tk } ∧ Fr h₀ L h' m' ∧ News h₀ L h' ((pl, poolO a ta b tb) :: cst) ∧ m' (Str.ofString "pool") = some (.ref pl) ∧ (∀ y, y ≠ Str.ofString "cell" → y ≠ Str.ofString "pool" → m' y = m₀ y) ∧ PoolOk a b ∧ Builtin.Int.intBits a ≤ 400 * (i + 1)
theorem po_next {h₀ : Heap} {L : Addr} {m₀ m' : Str → Option Value} {pl : Addr} {cst : List (Addr × Obj)} {i : Nat} {s₁ : Shared} {Q : Flow → Shared → Prop} {h' : Heap} {tk : Nat} {a b : Int} {ta tb : Tok} (F : Fr h₀ L h' m') (N : News h₀ L h' ((pl, poolO a ta b tb) :: cst)) (j1 : m' (Str.ofString "pool") = some (.ref pl)) (j2 : ∀ y, y ≠ Str.ofString "cell" → y ≠ Str.ofString "pool" → m' y = m₀ y) (j3 : PoolOk a b) (j4 : Builtin.Int.intBits a ≤ 400 * (i + 1)) :
    PoEnd h₀ L m₀ pl cst i s₁ Q .next { s₁ with heap := h', toks := tk } := ⟨h', tk, m', a, ta, b, tb, rfl, F, N, j1, j2, j3, j4⟩
theorem po_start : PoolOk 0 1 ∧ Builtin.Int.intBits 0 ≤ 400 * 0 := ⟨⟨by decide, by decide, by decide⟩, by decide⟩
theorem po_loop {l pl : Addr} {vs : List Value} {ns : List Int} {nn : Nat} {m₀ : Str → Option Value} {cst : List (Addr × Obj)} {t0 t1 : Tok}
    (hh : A.handled = none) (F : Fr h₀ env.locals s.heap m₀) (N : News h₀ env.locals s.heap ((pl, poolO 0 t0 1 t1) :: cst)) (hl : (l, listOf vs.toArray nn) ∈ cst) (hi : IntsAre vs ns) (h24 : ns.length ≤ 24)
    (h1 : m₀ (Str.ofString "pool") = some (.ref pl))
    (turn : ∀ i k t a ta b tb h tk own, i < 24 → PoolOk a b → Builtin.Int.intBits a ≤ 400 * i → OwnOff own [pl] →
      Fr h₀ env.locals h (fun y => if y = Str.ofString "cell" then some (.int k t) else if y = Str.ofString "pool" then some (.ref pl) else m₀ y) → News h₀ env.locals h ((pl, poolO a ta b tb) :: (cst ++ own)) →
      wpAny (model prog w) A (execs body env) (PoEnd h₀ env.locals m₀ pl (cst ++ own) i { s with heap := h, toks := tk } Q) E { s with heap := h, toks := tk })
    (done : ∀ a ta b tb (u : Str → Option Value) h tk, PoolOk a b → Fr h₀ env.locals h (fun y => if y = Str.ofString "cell" then u y else if y = Str.ofString "pool" then some (.ref pl) else m₀ y) → News h₀ env.locals h ((pl, poolO a ta b tb) :: cst) → Q .next { s with heap := h, toks := tk }) :
    wpAny (model prog w) A (pyIter (.ref l)) (fun it s₂ => LoopAtV prog w A h₀ env (Str.ofString "cell") body Q E it s₂) E s := by
  have hlen := hi.length
  refine items_loop (σ := PoS) (fun c => [(pl, poolO c.a c.ta c.b c.tb)]) [pl] (Str.ofString "pool") (Str.ofString "pool") (fun _ => Value.ref pl) (fun _ => Value.ref pl)
    (fun i c => PoolOk c.a c.b ∧ Builtin.Int.intBits c.a ≤ 400 * i) ⟨0, t0, 1, t1⟩ hh F N hl (fun _ => rfl) h1 h1 po_start ?_ ?_
  · rintro i v ⟨a, ta, b, tb⟩ h tk own hv ⟨hp, hb⟩ o1 _ F₁ N₁
    obtain ⟨k, t, rfl, -⟩ := hi.at i v hv
    have hi8 : i < 24 := by
      have := (List.getElem?_eq_some_iff.mp hv).1
      omega
    dsimp only at hp hb
    simp only [if_twice] at F₁
    refine wpAny_mono (turn i k t a ta b tb h tk own hi8 hp hb o1 F₁ N₁) (fun f s₂ hx => ?_) fun _ _ e => e
    have fin : (∃ h' tk' m' a ta b tb, s₂ = { ({ s with heap := h, toks := tk } : Shared) with heap := h', toks := tk' } ∧ Fr h₀ env.locals h' m' ∧ News h₀ env.locals h' ((pl, poolO a ta b tb) :: (cst ++ own)) ∧ m' (Str.ofString "pool") = some (.ref pl) ∧ (∀ y, y ≠ Str.ofString "cell" → y ≠ Str.ofString "pool" → m' y = m₀ y) ∧ PoolOk a b ∧ Builtin.Int.intBits a ≤ 400 * (i + 1)) →
        ∃ h' tk' m' c, s₂ = { ({ s with heap := h, toks := tk } : Shared) with heap := h', toks := tk' } ∧ Fr h₀ env.locals h' m' ∧ News h₀ env.locals h' ((fun c : PoS => [(pl, poolO c.a c.ta c.b c.tb)]) c ++ (cst ++ own)) ∧ m' (Str.ofString "pool") = some ((fun _ : PoS => Value.ref pl) c) ∧ m' (Str.ofString "pool") = some ((fun _ : PoS => Value.ref pl) c) ∧ (∀ z, z ≠ Str.ofString "cell" → z ≠ Str.ofString "pool" → z ≠ Str.ofString "pool" → m' z = m₀ z) ∧
          PoolOk c.a c.b ∧ Builtin.Int.intBits c.a ≤ 400 * (i + 1) := by
      rintro ⟨h', tk', m', a', ta', b', tb', rfl, F', N', j1, jm, hp', hb'⟩
      exact ⟨h', tk', m', ⟨a', ta', b', tb'⟩, rfl, F', N', j1, j1, fun z z1 z2 _ => jm z z1 z2, hp', hb'⟩
    cases f with
    | ret v => exact hx
    | brk => exact hx
    | next => exact fin hx
    | cont => exact fin hx
  · rintro ⟨a, ta, b, tb⟩ u h tk ⟨hp, -⟩ F₁ N₁
    simp only [if_twice] at F₁
    exact done a ta b tb u h tk hp F₁ N₁
end
theorem big_bits : Builtin.Int.intBits big ≤ 399 := by decide +kernel
theorem po_mul {w : World} {A : Around} {E : Value → Shared → Prop} {hp₁ : Heap} {gn₁ : Array GenState} {dr₁ : Drawn} {tk₁ : Nat} {os₁ : OsState} {Q : Value → Shared → Prop} {a : Int} {i : Nat} {t u : Tok} (hb : Builtin.Int.intBits a ≤ 400 * i) (hi : i < 24) (h : Q (.int (a * big) tk₁) (.mk hp₁ gn₁ dr₁ (tk₁ + 1) os₁)) :
    wpAny (model prog w) A (binaryOp .Mult (.int a t) (.int big u)) Q E (.mk hp₁ gn₁ dr₁ tk₁ os₁) :=
  PySem.AutoIntOps.mul_0 h (IntMulOk.of_le hb big_bits (by omega))
theorem po_mod {w : World} {A : Around} {E : Value → Shared → Prop} {hp₁ : Heap} {gn₁ : Array GenState} {dr₁ : Drawn} {tk₁ : Nat} {os₁ : OsState} {Q : Value → Shared → Prop} {a : Int} {t u : Tok} (h : Q (.int (a.fmod big) tk₁) (.mk hp₁ gn₁ dr₁ (tk₁ + 1) os₁)) :
    wpAny (model prog w) A (binaryOp .Mod (.int a t) (.int big u)) Q E (.mk hp₁ gn₁ dr₁ tk₁ os₁) :=
  mod_int (by decide +kernel) h
theorem po_bits {a c : Int} {i : Nat} (hb : Builtin.Int.intBits a ≤ 400 * i) : Builtin.Int.intBits (a * big + c.fmod big) ≤ 400 * (i + 1) := by
  have h1 := intBits_mul_le hb big_bits
  have h2 : Builtin.Int.intBits (c.fmod big) ≤ 399 := intBits_le_of_natAbs (natAbs_fmod_le c big (by decide +kernel)) big_bits
  exact Nat.le_trans (intBits_add_le h1 h2) (by omega)
theorem po_ok {a b c : Int} (h : PoolOk a b) : PoolOk (a * big + c.fmod big) b :=
  ⟨Int.add_nonneg (Int.mul_nonneg h.1 (by decide +kernel)) (Int.fmod_nonneg_of_pos _ (by decide +kernel)), h.2⟩
theorem po_ok2 {a b c : Int} (h : PoolOk a b) : PoolOk a (c.fmod 2147483647) := ⟨h.1, Int.fmod_nonneg_of_pos _ (by decide), Int.fmod_lt_of_pos _ (by decide)⟩
set_option maxHeartbeats 8000000 in
theorem poolX (w : World) {sc : Addr} {vs : List Value} {ns : List Int} {led : List (Addr × Obj)}
    {p : Program} {loose : List Str} {mean : ExcName → Option Value} {mg mb : Str → Option Value} {dp un : Nat} {gd : Option (List Code)} {cn : Str} {cs : Scope} {ad : Addr} {ccd : Value} {cl : List (Str × Addr)} {outer : List Env} {A₀ : Around} {base h₀ : Heap} {L : Addr} {m : Str → Option Value} {hp₁ : Heap} {gn₁ : Array GenState} {dr₁ : Drawn} {tk₁ : Nat} {os₁ : OsState} {Q E : Value → Shared → Prop}
    (B : Below A₀ base outer h₀) (F : Fr h₀ L hp₁ m) (X : (hd.heap_1 w.params).In h₀) (N : News h₀ L hp₁ led) (T : Top p loose mean mg mb h₀) (hk : cs.kind = .function) (hsc : h₀.IsList sc vs.toArray) (hi : IntsAre vs ns) (h63 : ns.length ≤ 63)
    (hdp : dp + 20 < recursionLimit) (hu : un + 260 < cLine)
    (ret : ∀ pl a ta b tb h' tk', PoolOk a b → (∀ q ∈ led, q.1 ≠ pl) → Fr h₀ L h' m → News h₀ L h' ((pl, poolO a ta b tb) :: led) → Q (.ref pl) (.mk h' gn₁ dr₁ tk' os₁)) :
    wpAny (model prog w) (ktrTop dp un gd cn cs L ad ccd cl outer) (call (.ref 619) [.ref sc]) Q E (.mk hp₁ gn₁ dr₁ tk₁ os₁) := by
  w_on
  refine wpAny_call ?_
  k_dflt ktr_enter
  with_reducible rename Fr h₀ L _ _ => FG9
  have hsc9 := hsc.at fun o e => FG9.keep _ _ e
  clear hsc
  repeat' (first
    | (k_unfold; (try dsimp only))
    | (k_end; wrow_close)
    | ((fail_if_success (with_reducible show wpAny _ _ _ _ _ _)); with_reducible ((k_dflt (refine' po_next ?tb_29_4 ?tc_29_4 ?td_29_4 ?te_29_4 ?tf_29_4 ?tg_29_4; (case tb_29_4 => assumption); (case tc_29_4 => (rename News _ _ _ _ => lN9; exact lN9)); (case td_29_4 => exact rfl); (case te_29_4 => (intro z hz1 hz2; first | rfl | simp [hz1, hz2])); (case tf_29_4 => first | exact po_ok (by assumption) | exact po_ok2 (by assumption)); (case tg_29_4 => first | exact po_bits (by assumption) | (with_reducible rename Builtin.Int.intBits _ ≤ _ => hb9; omega))))))
    | ((with_reducible show wpAny _ _ (binaryOp _ _ _) _ _ _); first
      | with_reducible ((k_here; (with_reducible show wpAny _ _ (binaryOp _ (.int _ _) (.int big _)) _ _ _); (with_reducible refine po_mod ?_); k_whole))
      | (k_here; (with_reducible show wpAny _ _ (binaryOp _ (.int _ _) (.int big _)) _ _ _); (refine' po_mul ?a_29_2 ?b_29_2 ?_; (case a_29_2 => assumption); (case b_29_2 => with_reducible assumption)); k_whole)
      | with_reducible (first | with_reducible refine pow_2_30 ?_ | with_reducible refine pow_10_18 ?_ | with_reducible refine pow_10_120 ?_))
    | ((with_reducible show wpAny _ _ (pyIter _) _ _ _); with_reducible ((k_here; (with_reducible show wpAny _ _ (pyIter (Value.ref _)) (fun it s₂ => LoopAtV _ _ _ _ _ _ [Stmt.If _ _ _ _] _ _ it s₂) _ _); focus (with_unfolding_all refine' po_loop ?k0_29_1 ?k1_29_1 ?k2_29_1 ?k3_29_1 ?ki_29_1 ?kl_29_1 ?k4_29_1 ?_ ?_; (case k0_29_1 => rfl); (case k1_29_1 => k_asm); (case k2_29_1 => exact news_swap (by k_asm)); (case k3_29_1 => k_mem); (case ki_29_1 => with_reducible assumption); (case kl_29_1 => simp only [List.length_take]; omega); (case k4_29_1 => rfl); (intro i' k' t' a' ta' b' tb' h' tk' own' hi' hp' hb' o1' F' N'; (try k_fold)); rotate_left; (intro a' ta' b' tb' u' h' tk' hp' F' N'; (try k_sweep); (try k_fold)); rotate_right))))
    | ((with_reducible show wpAny _ _ (exec (Stmt.For _ _ _ _ _) _) _ _ _); with_reducible ((k_here; (rename Fr _ _ _ _ => lF'); (with_unfolding_all refine' For_invVF lF' ?k1_29_0 ?k2_29_0 ?_; (case k1_29_0 => exact rfl); (case k2_29_0 => exact rfl); k_whole))))
    | ((with_reducible show wpAny _ _ (eval (Expr.Name _ _) _) _ _ _); with_reducible (k_dflt (first | ((with_reducible show wpAny _ _ (eval (Expr.Name _ _) (envOf _ _ _ _ _)) _ _ _); first | (refine' ld ?k1_08_2 ?k2_08_2 ?_ (hk := rfl) (hl := ?kl_08_2) (hd := ?kd_08_2); (case kl_08_2 => kernel_rfl); (case k1_08_2 => with_reducible assumption); (case k2_08_2 => exact rfl); (case kd_08_2 => decide +kernel)) | (refine' name_K ?kF_08_2 ?k1_08_2 ?k2_08_2 ?k3_08_2 ?_ (hk := rfl) (hx := ?kl_08_2) (hd := ?kd_08_2); (case kF_08_2 => with_reducible assumption); (case k1_08_2 => with_reducible assumption); (case k2_08_2 => k_asm); (case k3_08_2 => k_is); (case kl_08_2 => kernel_rfl); (case kd_08_2 => decide +kernel); k_whole)))))
    | walk1
    | (dsimp only; walk1)
    | (leave1; walk_say "STEP leave1"; try dsimp only)
    | fail "no step")
  all_goals exact ret _ _ _ _ _ _ _ (by with_reducible assumption) (allLt_ne (by with_reducible assumption)) (by k_asm) (cb_drop (by k_asm) (List.forall_mem_cons.mpr ⟨by k_mem, fun q9 hq9 => by k_mem⟩))
theorem upd_app {d : Addr} {o : Obj} {g : Obj → List (Addr × Obj)} {l : List (Addr × Obj)} (U : UpdF d o l g) : ∀ {fr : List (Addr × Obj)}, (∀ p ∈ fr, p.1 ≠ d) → UpdF d o (fr ++ l) (fun o' => fr ++ g o')
  | [], _ => U
  | p :: fr, h => UpdF.tail (h p (.head _)) (upd_app U (fr := fr) fun q hq => h q (.tail _ hq))
theorem all_app {d : Addr} {a b : List (Addr × Obj)} (x : ∀ p ∈ a, p.1 ≠ d) (y : ∀ p ∈ b, p.1 ≠ d) : ∀ p ∈ a ++ b, p.1 ≠ d := fun p hp => (List.mem_append.mp hp).elim (x p) (y p)
theorem allLt_app {d : Nat} : ∀ {a b : List (Addr × Obj)}, AllLt d (a ++ b) = (AllLt d a ∧ AllLt d b)
  | [], b => by
    show AllLt d b = (True ∧ AllLt d b)
    rw [true_and]
  | p :: r, b => by
    show (p.1 < d ∧ AllLt d (r ++ b)) = ((p.1 < d ∧ AllLt d r) ∧ AllLt d b)
    rw [allLt_app, and_assoc]
theorem lay_all {α : Type} {f : α → PyData} {k : Nat} (hf : ∀ x, (f x).canLay0 = true ∧ (f x).depth ≤ k) : ∀ l : List α, PyData.canLayAll0 (l.map f) = true ∧ PyData.depthAll (l.map f) ≤ k
  | [] => ⟨rfl, Nat.zero_le _⟩
  | x :: r => by
    obtain ⟨h1, h2⟩ := hf x
    obtain ⟨h3, h4⟩ := lay_all hf r
    rw [List.map_cons]
    refine ⟨?_, ?_⟩
    · show ((f x).canLay0 && PyData.canLayAll0 (r.map f)) = true
      rw [h1, h3]; rfl
    · show max (f x).depth (PyData.depthAll (r.map f)) ≤ k
      omega
theorem lay_desc (nd : Nd) : (descD nd).canLay0 = true ∧ (descD nd).depth ≤ 8 := by
  cases nd with
  | rule f _ _ => cases f <;> exact ⟨rfl, Nat.le_of_ble_eq_true rfl⟩
  | _ => exact ⟨rfl, Nat.le_of_ble_eq_true rfl⟩
open PySem.SeqAt in
theorem seen_shaped {wd sg od p q : Int} {nds : List Nd} : shaped (seenD wd sg od p q nds) = true := by
  obtain ⟨h1, h2⟩ := lay_all lay_desc nds
  obtain ⟨h3, h4⟩ := lay_all (f := PyData.int) (k := 0) (fun x => ⟨rfl, Nat.le_refl _⟩) (plF sg od p q nds).2.2
  have a : (seenD wd sg od p q nds).canLay0 = true := by
    show (true && (true && (true && (true && (true && ((true && (true && true)) && (PyData.canLayAll0 (nds.map descD) && (PyData.canLayAll0 ((plF sg od p q nds).2.2.map PyData.int) && true)))))))) = true
    rw [h1, h3]; rfl
  have b : (seenD wd sg od p q nds).depth ≤ 64 := by
    have d1 : PyData.depthAll (nds.map descD) + 1 ≤ 63 := Nat.le_trans (Nat.succ_le_succ h2) (by decide)
    have d2 : PyData.depthAll ((plF sg od p q nds).2.2.map PyData.int) + 1 ≤ 63 := Nat.le_trans (Nat.succ_le_succ h4) (by decide)
    show max 0 (max 0 (max 0 (max 0 (max 0 (max (max 0 (max 0 0) + 1) (max (PyData.depthAll (nds.map descD) + 1) (max (PyData.depthAll ((plF sg od p q nds).2.2.map PyData.int) + 1) 0))))))) + 1 ≤ 63 + 1
    have z : 0 ≤ 63 := Nat.zero_le _
    exact Nat.succ_le_succ (Nat.max_le.mpr ⟨z, Nat.max_le.mpr ⟨z, Nat.max_le.mpr ⟨z, Nat.max_le.mpr ⟨z, Nat.max_le.mpr ⟨z, Nat.max_le.mpr ⟨by decide, Nat.max_le.mpr ⟨d1, Nat.max_le.mpr ⟨d2, z⟩⟩⟩⟩⟩⟩⟩⟩)
  show ((seenD wd sg od p q nds).canLay0 && decide ((seenD wd sg od p q nds).depth ≤ 64)) = true
  rw [a, decide_eq_true b]; rfl
open PySem.SeqAt in
theorem seen_same {w : World} {A : Around} {E : Value → Shared → Prop} {hp₁ : Heap} {gn₁ : Array GenState} {dr₁ : Drawn} {tk₁ : Nat} {os₁ : OsState} {Q : Value → Shared → Prop} {h₀ : Heap} {L a b : Addr} {led f1 f2 : List (Addr × Obj)} {wd sg od p q : Int} {nds : List Nd} (N : News h₀ L hp₁ led) (ra : RdIn f1 (.ref a) (seenD wd sg od p q nds)) (rb : RdIn f2 (.ref b) (seenD wd sg od p q nds)) (ha : ∀ p ∈ f1, p ∈ led) (hb : ∀ p ∈ f2, p ∈ led) (hu : A.units + 64 < cLine)
    (h : Q (.bool false) (.mk hp₁ gn₁ dr₁ tk₁ os₁)) : wpAny (model prog w) A (compareOp .NotEq (.ref a) (.ref b)) Q E (.mk hp₁ gn₁ dr₁ tk₁ os₁) := by
  obtain ⟨xa, ra'⟩ := ra hp₁ fun p hp => (N p (ha p hp)).1
  obtain ⟨xb, rb'⟩ := rb hp₁ fun p hp => (N p (hb p hp)).1
  have e : PyData.eqv (seenD wd sg od p q nds) (seenD wd sg od p q nds) = true := eqv_refl _ (canLay_of_shaped seen_shaped)
  exact ne_dataH ra' rb' seen_shaped seen_shaped hu (by rw [e]; exact h)
theorem seen_use {w : World} {bx dbx l rt : Addr} {a0 a1 a2 a3 a4 a5 a6 a7 a8 t0 t2 t5 t6 t7 t8 t9 : Tok} {vh vd : Value} {wdX sgX odX pX qX : Int} {vs : List Value} {nn : Nat} {nds : List Nd} {nl led : List (Addr × Obj)} {p : Program} {loose : List Str} {mean : ExcName → Option Value} {mg mb : Str → Option Value} {dp un : Nat} {gd : Option (List Code)} {cn : Str} {cs : Scope} {ad : Addr} {ccd : Value} {cl : List (Str × Addr)} {outer : List Env} {A₀ : Around} {base h₀ : Heap} {L : Addr} {m : Str → Option Value} {hp₁ : Heap} {gn₁ : Array GenState} {dr₁ : Drawn} {tk₁ : Nat} {os₁ : OsState}
    {Q E : Value → Shared → Prop} (m0 : (bx, instObj 342 dbx) ∈ led) (m1 : (dbx, boxO w.params a0 a1 a2 a3 a4 a5 a6 a7 a8 (.int 3 t0) (.int wdX t2) vh vd l (.int 0 t5) (.int sgX t6) (.int odX t7) rt) ∈ led) (m2 : (rt, tupO [.int pX t8, .int qX t9]) ∈ led)
    (q0 : 0 < qX) (q1 : qX ≤ 2000) (hl : (l, listOf vs.toArray nn) ∈ led) (hNs : NodesAt w.params nl vs nds) (hnl : ∀ p ∈ nl, p ∈ led) (h8 : vs.length ≤ 8) (B : Below A₀ base outer h₀) (F : Fr h₀ L hp₁ m) (X : (hd.heap_1 w.params).In h₀) (N : News h₀ L hp₁ led) (T : Top p loose mean mg mb h₀) (hk : cs.kind = .function)
    (hd : dp + 18 < recursionLimit) (hu : un + 240 < cLine)
    (ret : ∀ sp fr h' tk', Apart fr led → (∀ q ∈ fr, q.1 ≠ dbx) → RdIn (fr ++ ((rt, tupO [.int pX t8, .int qX t9]) :: nl)) (.ref sp) (seenD wdX sgX odX pX qX nds) → Fr h₀ L h' m → News h₀ L h' (fr ++ led) → Q (.ref sp) (.mk h' gn₁ dr₁ tk' os₁)) :
    wpAny (model prog w) (ktrTop dp un gd cn cs L ad ccd cl outer) (call (.ref 652) [.ref bx]) Q E (.mk hp₁ gn₁ dr₁ tk₁ os₁) := by
  refine seen_ w m0 m1 m2 q0 q1 hl hNs hnl h8 p loose mean mg mb dp un gd cn cs ad ccd cl outer A₀ base h₀ L m (.mk hp₁ gn₁ dr₁ tk₁ os₁) Q E B F X N T hk hd hu ?_
  rintro v led' h' tk' F' N' ⟨sp, fr, rfl, rfl, o, r⟩
  exact ret sp fr h' tk' o (fun q hq => (o q hq _ m1).symm) r F' N'
/-- hung, wherever the box stands in the ledger -/
theorem hung_use {w : World} {bx dbx l rt : Addr} {a0 a1 a2 a3 a4 a5 a6 a7 a8 u1 u2 : Tok} {vk vw vsh vg vo v0 : Value} {h d : Int} {vr : List Value} {nn : Nat} {nd : Nd} {new led : List (Addr × Obj)} {g : Obj → List (Addr × Obj)}
    {p : Program} {loose : List Str} {mean : ExcName → Option Value} {mg mb : Str → Option Value} {dp un : Nat} {gd : Option (List Code)} {cn : Str} {cs : Scope} {ad : Addr} {ccd : Value} {A₀ : Around} {base h₀ : Heap} {L : Addr} {m : Str → Option Value} {hp₁ : Heap} {gn₁ : Array GenState} {dr₁ : Drawn} {tk₁ : Nat} {os₁ : OsState} {Q E : Value → Shared → Prop}
    (U : UpdF dbx (boxO w.params a0 a1 a2 a3 a4 a5 a6 a7 a8 vk vw (.int h u1) (.int d u2) l vsh vg vo rt) led g)
    (m0 : (bx, instObj 342 dbx) ∈ led) (n0 : bx ≠ dbx) (ml : (l, listOf (v0 :: vr).toArray nn) ∈ led) (n1 : l ≠ dbx) (hN : NodeAt w.params v0 nd new) (hsub : ∀ p ∈ new, p ∈ led) (hoff : ∀ p ∈ new, p.1 ≠ dbx)
    (B : Below A₀ base [] h₀) (XB : (hd.heap_1 w.params).In base) (TB : Top p loose mean mg mb base) (F : Fr h₀ L hp₁ m) (X : (hd.heap_1 w.params).In h₀) (N : News h₀ L hp₁ led) (T : Top p loose mean mg mb h₀) (hk : cs.kind = .function)
    (hd : dp + 20 < recursionLimit) (hu : un + 260 < cLine)
    (retT : -1073741823 ≤ h + d - heightF nd → h + d - heightF nd ≤ 1073741823 → ∀ h' tk' u1 u2, Fr h₀ L h' m → News h₀ L h' (g (boxO w.params a0 a1 a2 a3 a4 a5 a6 a7 a8 vk vw (.int (heightF nd) u1) (.int (h + d - heightF nd) u2) l vsh vg vo rt)) → Q (.bool true) (.mk h' gn₁ dr₁ tk' os₁))
    (retF : ¬ (-1073741823 ≤ h + d - heightF nd ∧ h + d - heightF nd ≤ 1073741823) → ∀ h' tk', Fr h₀ L h' m → News h₀ L h' led → Q (.bool false) (.mk h' gn₁ dr₁ tk' os₁)) :
    wpAny (model prog w) (ktrTop dp un gd cn cs L ad ccd [] []) (call (.ref 659) [.ref bx]) Q E (.mk hp₁ gn₁ dr₁ tk₁ os₁) := by
  obtain ⟨pre, post, e, eg, h1, h2⟩ := U.split
  subst e
  have mv : ∀ {q : Addr × Obj}, q ∈ pre ++ (dbx, boxO w.params a0 a1 a2 a3 a4 a5 a6 a7 a8 vk vw (.int h u1) (.int d u2) l vsh vg vo rt) :: post → q.1 ≠ dbx → q ∈ pre ++ post := by
    intro q hq hne
    rcases List.mem_append.mp hq with hq | hq
    · exact List.mem_append_left _ hq
    · rcases List.mem_cons.mp hq with rfl | hq
      · exact absurd rfl hne
      · exact List.mem_append_right _ hq
  have back : ∀ {g : Heap} {o : Obj}, News h₀ L g ((dbx, o) :: (pre ++ post)) → News h₀ L g (pre ++ (dbx, o) :: post) := fun N q hq => N q (by
    rcases List.mem_append.mp hq with hq | hq
    · simp [hq]
    · rcases List.mem_cons.mp hq with rfl | hq <;> simp_all)
  have N1 : News h₀ L hp₁ ((dbx, boxO w.params a0 a1 a2 a3 a4 a5 a6 a7 a8 vk vw (.int h u1) (.int d u2) l vsh vg vo rt) :: (pre ++ post)) := fun q hq => N q (by
    rcases List.mem_cons.mp hq with rfl | hq
    · simp
    · rcases List.mem_append.mp hq with hq | hq <;> simp [hq])
  refine hungX w (mv m0 n0) (mv ml n1) hN (fun q hq => mv (hsub q hq) (hoff q hq)) (fun q hq => (List.mem_append.mp hq).elim (h1 q) (h2 q)) B XB TB F X N1 T hk hd hu ?_ ?_
  · intro b1 b2 h' tk' x1 x2 F' N'
    refine retT b1 b2 h' tk' x1 x2 F' ?_
    rw [eg]
    exact back N'
  · intro nb h' tk' F' N'
    exact retF nb h' tk' F' (back N')
/-- a box, made -/
theorem made_use (w : World) {pl : Addr} {a b : Int} {ta tb : Tok} {rest : List (Addr × Obj)} (hoff : ∀ p ∈ rest, p.1 ≠ pl) (hp : PoolOk a b)
    {p : Program} {loose : List Str} {mean : ExcName → Option Value} {mg mb : Str → Option Value} {dp un : Nat} {gd : Option (List Code)} {cn : Str} {cs : Scope} {ad : Addr} {ccd : Value} {A₀ : Around} {base h₀ : Heap} {L : Addr} {m : Str → Option Value} {hp₁ : Heap} {gn₁ : Array GenState} {dr₁ : Drawn} {tk₁ : Nat} {os₁ : OsState} {Q E : Value → Shared → Prop}
    (B : Below A₀ base [] h₀) (XB : (hd.heap_1 w.params).In base) (TB : Top p loose mean mg mb base) (F : Fr h₀ L hp₁ m) (X : (hd.heap_1 w.params).In h₀) (N : News h₀ L hp₁ ((pl, poolO a ta b tb) :: rest)) (T : Top p loose mean mg mb h₀) (hk : cs.kind = .function)
    (hdp : dp + 30 < recursionLimit) (hu : un + 400 < cLine)
    (retN : ∀ a ta b tb h' tk', PoolOk a b → Fr h₀ L h' m → News h₀ L h' ((pl, poolO a ta b tb) :: rest) → Q .none (.mk h' gn₁ dr₁ tk' os₁))
    (retB : ∀ (bx dbx rt l : Addr) (a0 a1 a2 a3 a4 a5 a6 a7 a8 t1 t2 t3 t4 t5 t6 t7 t8 t9 : Tok) (wd h d sg od p q : Int) (v0 : Value) (vr : List Value) (nl new : List (Addr × Obj)) (nd : Nd) (nds : List Nd) a ta b tb h' tk', PoolOk a b → NodesAt w.params nl (v0 :: vr) nds → NodeAt w.params v0 nd new → (∀ p ∈ new, p ∈ nl) → (v0 :: vr).length ≤ 8 → (∀ p ∈ nl, p.1 ≠ pl) → (∀ p ∈ nl, p.1 ≠ dbx) → (∀ p ∈ new, p.1 ≠ dbx) → @Ne Nat l dbx → @Ne Nat pl dbx → (∀ p ∈ rest, p.1 ≠ dbx) → @Ne Nat bx dbx → @Ne Nat rt dbx → 0 < q → q ≤ 2000 → -1073741823 ≤ h → h ≤ 1073741823 → -1073741823 ≤ d → d ≤ 1073741823 → Fr h₀ L h' m →
      News h₀ L h' ((dbx, boxO w.params a0 a1 a2 a3 a4 a5 a6 a7 a8 (.int 3 t1) (.int wd t2) (.int h t3) (.int d t4) l (.int 0 t5) (.int sg t6) (.int od t7) rt) :: (bx, instObj 342 dbx) :: (rt, tupO [.int p t8, .int q t9]) :: (l, listOf (v0 :: vr).toArray (v0 :: vr).length) :: (pl, poolO a ta b tb) :: (nl ++ rest)) → Q (.ref bx) (.mk h' gn₁ dr₁ tk' os₁)) :
    wpAny (model prog w) (ktrTop dp un gd cn cs L ad ccd [] []) (call (.ref 645) [.ref pl]) Q E (.mk hp₁ gn₁ dr₁ tk₁ os₁) := by
  refine madeX w hoff hp B XB TB F X N T hk hdp hu retN ?_
  intro bx dbx rt l a0 a1 a2 a3 a4 a5 a6 a7 a8 t1 t2 t3 t4 t5 t6 t7 t8 t9 wd h d sg od p q ys nl nds a ta b tb h' tk' hp' hNs y1 y8 o1 o2 o3 o4 o5 l1 l2 q0 q1 b1 b2 b3 b4 F' N'
  cases hNs with
  | nil => exact absurd y1 (by decide)
  | cons hN hs r =>
    exact retB bx dbx rt l a0 a1 a2 a3 a4 a5 a6 a7 a8 t1 t2 t3 t4 t5 t6 t7 t8 t9 wd h d sg od p q _ _ nl _ _ _ a ta b tb h' tk' hp' (.cons hN hs r) hN hs y8 o1 o2 (fun p hp => o2 p (hs p hp)) o3 o4 o5 (fun e => Nat.lt_irrefl _ (e ▸ l1)) (fun e => Nat.lt_irrefl _ (e ▸ l2)) q0 q1 b1 b2 b3 b4 F' N'
/-- the end of a turn -/
def LwEnd (h₀ : Heap) (L pl : Addr) (own : List (Addr × Obj)) (s₁ : Shared) (Q : Flow → Shared → Prop) (f : Flow) (s₂ : Shared) : Prop :=
  match f with
  | .ret v => Q (.ret v) s₂
  | .brk => Q .next s₂
  | _ => ∃ h' tk m' a ta b tb, s₂ = { s₁ with heap := h', toks := tk } ∧ Fr h₀ L h' m' ∧ News h₀ L h' ((pl, poolO a ta b tb) :: own) ∧ m' (Str.ofString "pool") = some (.ref pl) ∧ PoolOk a b
theorem lw_fr {g h : Heap} {L : Addr} {m : Str → Option Value} {x x1 : Str} {v v1 : Value} (F : Fr g L h (fun y => if y = x then some v else m y)) (h1 : m x1 = some v1) : Fr g L h (fun y => if y = x then some v else if y = x1 then some v1 else m y) := by
  have e : (fun y => if y = x then some v else if y = x1 then some v1 else m y) = fun y => if y = x then some v else m y := by
    funext y
    by_cases a : y = x
    · rw [if_pos a, if_pos a]
    · rw [if_neg a, if_neg a]
      by_cases b : y = x1
      · rw [if_pos b, b, h1]
      · rw [if_neg b]
  rw [e]; exact F
theorem lw_small {n : Int} (h0 : 3 ≤ n) (h1 : n < 8) : Builtin.Range.small 0 n 1 = true := range_small (by omega) (by omega)
theorem lw_loop {w : World} {A : Around} {E : Value → Shared → Prop} {hp₁ : Heap} {gn₁ : Array GenState} {dr₁ : Drawn} {tk₁ : Nat} {os₁ : OsState} {env : Env} {h₀ : Heap} {body : List Stmt} {Q : Flow → Shared → Prop} {r pl : Addr} {n a b : Int} {ta tb t0 u0 v0 : Tok} {m₀ : Str → Option Value} {rest : List (Addr × Obj)}
    (hh : A.handled = none) (hr : RangeAt hp₁ r n t0 u0 v0) (n0 : 3 ≤ n) (n1 : n < 8) (F : Fr h₀ env.locals hp₁ m₀) (N : News h₀ env.locals hp₁ ((pl, poolO a ta b tb) :: rest)) (h1 : m₀ (Str.ofString "pool") = some (.ref pl)) (hp : PoolOk a b)
    (turn : ∀ k t a ta b tb (u : Str → Option Value) h tk own, PoolOk a b → (∀ p ∈ own, p.1 ≠ pl) → Fr h₀ env.locals h (fun y => if y = Str.ofString "turn" then some (.int k t) else if y = Str.ofString "pool" then some (.ref pl) else u y) → News h₀ env.locals h ((pl, poolO a ta b tb) :: own) →
      wpAny (model prog w) A (execs body env) (LwEnd h₀ env.locals pl own (.mk h gn₁ dr₁ tk os₁) Q) E (.mk h gn₁ dr₁ tk os₁))
    (done : ∀ (u : Str → Option Value) h tk, Fr h₀ env.locals h u → News h₀ env.locals h [] → Q .next (.mk h gn₁ dr₁ tk os₁)) :
    wpAny (model prog w) A (pyIter (.ref r)) (fun it s₂ => LoopAtV prog w A h₀ env (Str.ofString "turn") body Q E it s₂) E (.mk hp₁ gn₁ dr₁ tk₁ os₁) := by
  have hsz : Builtin.Range.rangeSize 0 n 1 = ((n.toNat : Nat) : Int) := by rw [rangeSize_nat]; simp
  refine wpAny_pyIter_range hr (lw_small n0 n1) ?_
  have W : Walks prog w A hp₁.objs.size [hp₁.objs.size] [hp₁.objs.size] n.toNat (fun i v => i < n.toNat ∧ ∃ t, v = .int ((0 : Int) + i * 1) t)
      (fun i h => IsRangeIter h hp₁.objs.size ((0 : Int) + (i : Nat) * 1) ((n.toNat : Int) - (i : Nat)) 1) := (Walks.range hh _ 0 1 n.toNat).bound
  have hm : (pl, poolO a ta b tb) ∈ (pl, poolO a ta b tb) :: rest := .head _
  refine kdr_loop (fun _ m nx => ∃ a ta b tb, nx = [(pl, poolO a ta b tb)] ∧ m (Str.ofString "pool") = some (.ref pl) ∧ PoolOk a b) (news := [(pl, poolO a ta b tb)]) (m₀ := m₀) W (fun _ h => h) (fun _ h => h) ?_ ?_ ?_ ?_ (by show IsRangeIter _ _ _ _ _; rw [hsz]; simpa using Heap.get?_push_size _ rfl) (F.push _) (fun p hp => ?_) ⟨a, ta, b, tb, rfl, h1, hp⟩ ?_ ?_
  · intro i h hi b hb
    rw [List.mem_singleton.mp hb]
    exact ⟨_, hi⟩
  · intro hm
    exact absurd F.ns.lt ((List.mem_singleton.mp hm) ▸ Nat.lt_irrefl _)
  · intro b hb
    rw [List.mem_singleton.mp hb]
    exact next_is_new F
  · intro p hp hI
    rw [List.mem_singleton.mp hp] at hI
    exact absurd (Heap.lt_size (N _ hm).1) ((List.mem_singleton.mp hI) ▸ Nat.lt_irrefl _)
  · rw [List.mem_singleton.mp hp]
    exact ⟨Heap.get?_push_of_some _ (N _ hm).1, (N _ hm).2⟩
  · rintro i v m₁ nx h tk own hi ⟨_, t, rfl⟩ hoff ⟨a, ta, b, tb, rfl, k1, hp'⟩ F₁ N₁
    have ho : ∀ p ∈ own, p.1 ≠ pl := fun p hp e => hoff p hp pl (by simp) e
    refine wpAny_mono (turn _ t a ta b tb m₁ h tk own hp' ho (lw_fr F₁ k1) N₁) (fun f s₂ hx => ?_) fun _ _ e => e
    have fin : (∃ h' tk' m' a ta b tb, s₂ = { ((.mk h gn₁ dr₁ tk os₁) : Shared) with heap := h', toks := tk' } ∧ Fr h₀ env.locals h' m' ∧ News h₀ env.locals h' ((pl, poolO a ta b tb) :: own) ∧ m' (Str.ofString "pool") = some (.ref pl) ∧ PoolOk a b) →
        InvEndG h₀ env.locals (fun m nx => ∃ a ta b tb, nx = [(pl, poolO a ta b tb)] ∧ m (Str.ofString "pool") = some (.ref pl) ∧ PoolOk a b) own (.mk h gn₁ dr₁ tk os₁) s₂ := by
      rintro ⟨h', tk', m', a', ta', b', tb', e', F', N', j1, hp2⟩
      exact ⟨h', tk', m', (pl, poolO a' ta' b' tb') :: own, [(pl, poolO a' ta' b' tb')], e', F', N', fun p hp => List.mem_cons.mpr (.inl (List.mem_singleton.mp hp)), fun p hp => List.mem_cons_of_mem _ hp, hoff, a', ta', b', tb', rfl, j1, hp2⟩
    cases f with
    | ret v => exact hx
    | brk => exact hx
    | next => exact fin hx
    | cont => exact fin hx
  · rintro m₁ nx h tk ⟨a, ta, b, tb, rfl, k1, hp'⟩ F₁ N₁
    exact done m₁ h tk F₁ fun _ h => nomatch h
inductive TopMid (g : Heap) (L : Addr) (m : Str → Option Value) (led : List (Addr × Obj)) (nd : Nd) (s : Shared) (v : Value) (s' : Shared) : Prop where
  | mk : ∀ h tk t, s' = { s with heap := h, toks := tk } → v = .int (heightF nd) t → Fr g L h m → News g L h led → TopMid g L m led nd s v s'
theorem top_cut {P : Params} {M : Model} {A : Around} {E : Value → Shared → Prop} {s : Shared} {env : Env} {e : PySem.Expr} {Q : Value → Shared → Prop} {g : Heap} {L : Addr} {m : Str → Option Value} {led new : List (Addr × Obj)} {v : Value} {nd : Nd} (_hN : NodeAt P v nd new) (F : Fr g L s.heap m) (N : News g L s.heap led)
    (h2 : ∀ t h tk, Fr g L h m → News g L h led → Q (.int (heightF nd) t) { s with heap := h, toks := tk })
    (h1 : wpAny M A (eval e env) (TopMid g L m led nd s) E s) : wpAny M A (eval e env) Q E s :=
  wpAny_mono h1 (fun v s' h => by
    obtain ⟨h, tk, t, rfl, rfl, F', N'⟩ := h
    exact h2 t h tk F' N') fun _ _ e => e
theorem sub_two {w : World} {A : Around} {E : Value → Shared → Prop} {s : Shared} {u : Tok} {Q : Value → Shared → Prop} {h₀ : Heap} {L tp : Addr} {news : List (Addr × Obj)} {v v2 : Value} {value slice : PySem.Expr} (N : News h₀ L s.heap news) (hm : (tp, tupO [v, v2]) ∈ news) (h : Q v2 s)
    (hs : subscripted slice false (.ref tp) (.int 1 u) = operate [.ref tp, .int 1 u] (getItem (.ref tp) (.int 1 u)) := by with_unfolding_all rfl) :
    wpAny (model prog w) A (subscriptTail value slice (.ref tp) (.int 1 u)) Q E s := by
  have ht : IsTup s.heap tp [v, v2].toArray := tup_at N hm
  exact item_tupleT (j := 1) ht (by decide) (by decide) rfl rfl h hs
open PySem.SeqAt in
theorem ne_pair {w : World} {A : Around} {E : Value → Shared → Prop} {hp₁ : Heap} {gn₁ : Array GenState} {dr₁ : Drawn} {tk₁ : Nat} {os₁ : OsState} {Q : Value → Shared → Prop} {h₀ : Heap} {L a b : Addr} {led : List (Addr × Obj)} {x y x2 y2 : Int} {t1 t2 t3 t4 : Tok} (N : News h₀ L hp₁ led) (ha : (a, tupO [.int x t1, .int y t2]) ∈ led) (hb : (b, tupO [.int x2 t3, .int y2 t4]) ∈ led) (hx : x = x2) (hy : y = y2) (hu : A.units + 64 < cLine)
    (h : Q (.bool false) (.mk hp₁ gn₁ dr₁ tk₁ os₁)) : wpAny (model prog w) A (compareOp .NotEq (.ref a) (.ref b)) Q E (.mk hp₁ gn₁ dr₁ tk₁ os₁) := by
  subst hx
  subst hy
  have sh : shaped (.tuple [.int x, .int y]) = true := rfl
  have e : PyData.eqv (.tuple [.int x, .int y]) (.tuple [.int x, .int y]) = true := eqv_refl _ (canLay_of_shaped sh)
  exact ne_dataH (da := .tuple [.int x, .int y]) (db := .tuple [.int x, .int y]) (reads_tuple_at (N.get ha) rfl rfl (.cons (.int _ _) (.cons (.int _ _) .nil))) (reads_tuple_at (N.get hb) rfl rfl (.cons (.int _ _) (.cons (.int _ _) .nil))) sh sh hu (by rw [e]; exact h)
section
variable {w : World} {A : Around} {E : Value → Shared → Prop} {s : Shared} {Q : Value → Shared → Prop} {p : Prop} [Decidable p]
theorem ne_tt (hp : p) (h : wpAny (model prog w) A (compareOp .NotEq (.bool true) (.bool true)) Q E s) : wpAny (model prog w) A (compareOp .NotEq (.bool true) (.bool (decide p))) Q E s := by rw [decide_eq_true hp]; exact h
theorem ne_ff (hp : ¬ p) (h : wpAny (model prog w) A (compareOp .NotEq (.bool false) (.bool false)) Q E s) : wpAny (model prog w) A (compareOp .NotEq (.bool false) (.bool (decide p))) Q E s := by rw [decide_eq_false hp]; exact h
end
/-- a part's class, asked -/
theorem isbox_ {w : World} {v : Value} {nd : Nd} {new led : List (Addr × Obj)} {A : Around} {E : Value → Shared → Prop} {hp₁ : Heap} {gn₁ : Array GenState} {dr₁ : Drawn} {tk₁ : Nat} {os₁ : OsState} {h₀ : Heap} {L : Addr} {m : Str → Option Value} {Q : Value → Shared → Prop}
    (hN : NodeAt w.params v nd new) (hs : ∀ p ∈ new, p ∈ led) (F : Fr h₀ L hp₁ m) (X : (hd.heap_1 w.params).In h₀) (N : News h₀ L hp₁ led)
    (h : ∀ k, Q (.bool (decide (kindF nd ≤ 3))) (.mk hp₁ gn₁ dr₁ k os₁)) : wpAny (model prog w) A (call (.builtin "isinstance") [v, .ref 342]) Q E (.mk hp₁ gn₁ dr₁ tk₁ os₁) := by
  have hk := kind_in hN
  cases hN
  all_goals (simp only [List.forall_mem_cons] at hs)
  all_goals
    obtain ⟨m1, m2, -⟩ := hs
    walk1
  all_goals first
    | (rw [decide_eq_true (by assumption)] at h; exact h _)
    | exact h _
theorem isrule_ {w : World} {v : Value} {nd : Nd} {new led : List (Addr × Obj)} {A : Around} {E : Value → Shared → Prop} {hp₁ : Heap} {gn₁ : Array GenState} {dr₁ : Drawn} {tk₁ : Nat} {os₁ : OsState} {h₀ : Heap} {L : Addr} {m : Str → Option Value} {Q : Value → Shared → Prop}
    (hN : NodeAt w.params v nd new) (hs : ∀ p ∈ new, p ∈ led) (F : Fr h₀ L hp₁ m) (X : (hd.heap_1 w.params).In h₀) (N : News h₀ L hp₁ led) (hk : ¬ kindF nd ≤ 3)
    (h : ∀ k, Q (.bool (decide (kindF nd = 4))) (.mk hp₁ gn₁ dr₁ k os₁)) : wpAny (model prog w) A (call (.builtin "isinstance") [v, .ref 363]) Q E (.mk hp₁ gn₁ dr₁ tk₁ os₁) := by
  cases hN
  all_goals first | (exfalso; simp only [kindF] at hk; omega) | skip
  all_goals (simp only [List.forall_mem_cons] at hs)
  all_goals
    obtain ⟨m1, m2, -⟩ := hs
    walk1
  all_goals exact h _
theorem height_zero {P : Params} {v : Value} {nd : Nd} {new : List (Addr × Obj)} (hN : NodeAt P v nd new) (h1 : ¬ kindF nd ≤ 3) (h2 : ¬ kindF nd = 4) : heightF nd = 0 := by
  cases hN <;> first | rfl | exact absurd rfl h2 | exact absurd (by assumption) h1
inductive NMid (g : Heap) (L : Addr) (m : Str → Option Value) (pl : Addr) (rest : List (Addr × Obj)) (s : Shared) (v : Value) (s' : Shared) : Prop where
  | mk : ∀ h tk n t a ta b tb, s' = { s with heap := h, toks := tk } → v = .int n t → 0 ≤ n → n < 5 → PoolOk a b → Fr g L h m → News g L h ((pl, poolO a ta b tb) :: rest) → NMid g L m pl rest s v s'
theorem n_cut {M : Model} {A : Around} {E : Value → Shared → Prop} {s : Shared} {env : Env} {e : PySem.Expr} {Q : Value → Shared → Prop} {g : Heap} {L pl : Addr} {m : Str → Option Value} {rest : List (Addr × Obj)} {a b : Int} {ta tb : Tok} (F : Fr g L s.heap m) (N : News g L s.heap ((pl, poolO a ta b tb) :: rest))
    (h2 : ∀ n t a ta b tb h tk, 0 ≤ n → n < 5 → PoolOk a b → Fr g L h m → News g L h ((pl, poolO a ta b tb) :: rest) → Q (.int n t) { s with heap := h, toks := tk })
    (h1 : wpAny M A (eval e env) (NMid g L m pl rest s) E s) : wpAny M A (eval e env) Q E s :=
  wpAny_mono h1 (fun v s' h => by
    obtain ⟨h, tk, n, t, a, ta, b, tb, rfl, rfl, n0, n1, hp, F', N'⟩ := h
    exact h2 n t a ta b tb h tk n0 n1 hp F' N') fun _ _ e => e
local macro_rules | `(tactic| k_lt $h:ident) => `(tactic| (replace $h := allLt_of $h; (try simp only [AllLt, allLt_app, and_assoc, and_true] at $h:ident); (try (have lA9 := $h; (repeat (replace lA9 := And.right lA9))))))
local macro_rules | `(tactic| k_updF) => `(tactic| (refine' upd_app ?b ?a; (case a => with_reducible assumption); (case b => k_updF)))
local macro_rules | `(tactic| k_all) => `(tactic| (refine' all_app ?a ?b; (case a => with_reducible assumption); (case b => k_all)))
/- the names below keep the head from laying its quick twins of this file's own constants: each twin is a theorem of quadratic size -/
theorem fin_.tw9698969295797623451 : True := trivial
theorem fin_.tw17112557616572121900 : True := trivial
theorem fin_.tw2784163270177764838 : True := trivial
theorem fin_.tw3742593242466562262 : True := trivial
theorem fin_.tw16454347972014870657 : True := trivial
theorem fin_.tw16592262587489771444 : True := trivial
theorem fin_.tw8407041547198798559 : True := trivial
theorem fin_.tw14428039523471101950 : True := trivial
theorem fin_.tw14952314093332583967 : True := trivial
theorem fin_.tw10503728137411302355 : True := trivial
theorem fin_.tw12225596118577529908 : True := trivial
theorem fin_.tw11802295816751380850 : True := trivial
theorem fin_.tw2701663945010904794 : True := trivial
theorem fin_.tw3658407615518322929 : True := trivial
theorem fin_.tw2565217514210634434 : True := trivial
theorem fin_.tw8189481006149139637 : True := trivial
theorem fin_.tw11250851873557227570 : True := trivial
theorem fin_.tw10835803417841705981 : True := trivial
theorem fin_.tw5009562440527805655 : True := trivial
theorem fin_.tw4749810206476644553 : True := trivial
theorem fin_.tw11298833543193791771 : True := trivial
theorem fin_.tw16375606119766445241 : True := trivial
theorem fin_.tw13366849176794399062 : True := trivial
theorem fin_.tw15438480785773253685 : True := trivial
theorem fin_.tw451973415868573160 : True := trivial
theorem fin_.tw3948888951706608856 : True := trivial
theorem fin_.tw9207467221687153113 : True := trivial
theorem fin_.tw3796237180002912924 : True := trivial
theorem fin_.tw4099144138939286410 : True := trivial
theorem fin_.tw15816482774118690337 : True := trivial
theorem fin_.tw14997038470371493693 : True := trivial
theorem fin_.tw13208602228477097650 : True := trivial
theorem fin_.tw6057910160627480386 : True := trivial
theorem fin_.tw14290203498247980623 : True := trivial
theorem fin_.tw3550346536065137367 : True := trivial
theorem fin_.tw11929501405869435127 : True := trivial
theorem fin_.tw17731822576956118221 : True := trivial
theorem fin_.tw14558345874047013325 : True := trivial
theorem fin_.tw1259483398007573631 : True := trivial
theorem fin_.tw15080008614913377492 : True := trivial
theorem fin_.tw5749701316489253506 : True := trivial
theorem fin_.tw5697776277683521449 : True := trivial
theorem fin_.tw5699366279796716975 : True := trivial
theorem fin_.tw1459454601582780518 : True := trivial
theorem fin_.tw10430252775697089992 : True := trivial
theorem fin_.tw16993270342151917532 : True := trivial
theorem fin_.tw14706084676607449653 : True := trivial
theorem fin_.tw12694333668096265323 : True := trivial
theorem fin_.tw48955707091399105 : True := trivial
theorem fin_.tw2326167513009640337 : True := trivial
theorem fin_.tw5995793000267304285 : True := trivial
theorem fin_.tw2725894132099415672 : True := trivial
theorem fin_.tw7708458158497417281 : True := trivial
theorem fin_.tw1933574542527554948 : True := trivial
theorem fin_.tw3199460742536121082 : True := trivial
theorem fin_.tw7358936749428681245 : True := trivial
theorem fin_.tw16503421078420828558 : True := trivial
theorem fin_.tw12973214138976439510 : True := trivial
theorem fin_.tw3472026940020011307 : True := trivial
theorem fin_.tw5450949289129482269 : True := trivial
theorem fin_.tw1132871820754381811 : True := trivial
theorem fin_.tw4393941421028793643 : True := trivial
theorem fin_.tw5169323821285095652 : True := trivial
theorem fin_.tw18162378033678474067 : True := trivial
theorem fin_.tw6565327735491032668 : True := trivial
theorem fin_.tw18342563848406483578 : True := trivial
theorem fin_.tw17226316126393541891 : True := trivial
theorem fin_.tw16339254824564739667 : True := trivial
theorem fin_.tw17775666089653441882 : True := trivial
theorem fin_.tw7967361527627424019 : True := trivial
theorem fin_.tw1725110537519559089 : True := trivial
theorem fin_.tw15363314720380205069 : True := trivial
theorem fin_.tw8070492008065066773 : True := trivial
theorem fin_.tw10936882383102962104 : True := trivial
theorem fin_.tw9327995361216806677 : True := trivial
theorem fin_.tw9996589934272749237 : True := trivial
theorem fin_.tw8873989985784830642 : True := trivial
theorem fin_.tw3811001728300732556 : True := trivial
theorem fin_.tw18089109334514373950 : True := trivial
theorem fin_.tw13837385488750982748 : True := trivial
theorem fin_.tw16382943782215364979 : True := trivial
theorem fin_.tw13362934920918310524 : True := trivial
theorem fin_.tw9505673034878137783 : True := trivial
theorem fin_.tw5633616073587989001 : True := trivial
theorem fin_.tw9727122999912423885 : True := trivial
theorem fin_.tw12877093776317522714 : True := trivial
theorem fin_.tw824081789388670172 : True := trivial
theorem fin_.tw5863461675777691719 : True := trivial
theorem fin_.tw18231709705794837764 : True := trivial
theorem fin_.tw7345084067419179881 : True := trivial
theorem fin_.tw11379516263631506092 : True := trivial
theorem fin_.tw17099067009260755979 : True := trivial
theorem fin_.tw5357426465149754787 : True := trivial
theorem fin_.tw7565751361559225708 : True := trivial
theorem fin_.tw6535534840490868854 : True := trivial
theorem fin_.tw7153954563900242626 : True := trivial
theorem fin_.tw783947740301460694 : True := trivial
theorem fin_.tw17695219090035660640 : True := trivial
theorem fin_.tw11940655742372432205 : True := trivial
theorem fin_.tw6586282762223870327 : True := trivial
theorem fin_.tw2373882761986253856 : True := trivial
theorem fin_.tw5725218540509364595 : True := trivial
theorem fin_.tw18180736171420317782 : True := trivial
theorem fin_.tw17683194563112389357 : True := trivial
theorem fin_.tw17535745342294624345 : True := trivial
theorem fin_.tw8509745758982458663 : True := trivial
theorem fin_.tw1980842116885417248 : True := trivial
theorem fin_.tw16782720330456051473 : True := trivial
theorem fin_.tw1975601266739808215 : True := trivial
theorem fin_.tw5602949659900244949 : True := trivial
theorem fin_.tw6751147295803886061 : True := trivial
theorem fin_.tw9118831086291294384 : True := trivial
theorem fin_.tw3773275292046735161 : True := trivial
theorem fin_.tw3607760731300193134 : True := trivial
theorem fin_.tw17470942283906940720 : True := trivial
theorem fin_.tw12069304248889265647 : True := trivial
theorem fin_.tw5942618784814515332 : True := trivial
theorem fin_.tw3423824008263812248 : True := trivial
theorem fin_.tw4163165915872163399 : True := trivial
theorem fin_.tw12178695472707737689 : True := trivial
theorem fin_.tw2710710811346537460 : True := trivial
theorem fin_.tw2548540058205934134 : True := trivial
theorem fin_.tw3931907808517281280 : True := trivial
theorem fin_.tw7617092976979338365 : True := trivial
theorem fin_.tw15151772955290652649 : True := trivial
theorem fin_.tw4453984256054467583 : True := trivial
theorem fin_.tw6213493130976217795 : True := trivial
theorem fin_.tw11617044596050419724 : True := trivial
theorem fin_.tw14076531785372267815 : True := trivial
theorem fin_.tw2712863685344074284 : True := trivial
theorem fin_.tw1190242805532861564 : True := trivial
theorem fin_.tw5222232582439422642 : True := trivial
theorem fin_.tw16519156714426273497 : True := trivial
theorem fin_.tw12316332239928668409 : True := trivial
theorem fin_.tw7936204705178476120 : True := trivial
theorem fin_.tw1010019474124735351 : True := trivial
theorem fin_.tw16677241000636487845 : True := trivial
theorem fin_.tw3997003307404441086 : True := trivial
theorem fin_.tw4169458891452705637 : True := trivial
theorem fin_.tw7029258631439810299 : True := trivial
theorem fin_.tw1914727821576261925 : True := trivial
theorem fin_.tw12474834614386789829 : True := trivial
theorem fin_.tw9468253256600693471 : True := trivial
theorem fin_.tw5165012299797374868 : True := trivial
theorem fin_.tw8883322946318634347 : True := trivial
theorem fin_.tw328434365606347822 : True := trivial
theorem fin_.tw4033844956791285212 : True := trivial
theorem fin_.tw16895212838379717513 : True := trivial
theorem fin_.tw9952115064369881850 : True := trivial
theorem fin_.tw10498697695738958463 : True := trivial
theorem fin_.tw15991791232224870213 : True := trivial
theorem fin_.tw14118952752954652275 : True := trivial
theorem fin_.tw6255936621424286030 : True := trivial
theorem fin_.tw8634379092232163800 : True := trivial
theorem fin_.tw4337759413280130364 : True := trivial
theorem fin_.tw6341261770769466630 : True := trivial
theorem fin_.tw8797429555735945099 : True := trivial
theorem fin_.tw1470537106838069913 : True := trivial
theorem fin_.tw9771972504069211338 : True := trivial
theorem fin_.tw13195418179303260829 : True := trivial
theorem fin_.tw127004684699375432 : True := trivial
theorem fin_.tw17426196378125276611 : True := trivial
theorem fin_.tw15281006808730252857 : True := trivial
theorem fin_.tw3283374727565328487 : True := trivial
theorem fin_.tw13981342039770340491 : True := trivial
theorem fin_.tw2499322476322255603 : True := trivial
theorem fin_.tw13671435569038473830 : True := trivial
theorem fin_.tw13036311284479269900 : True := trivial
theorem fin_.tw15702211853889948234 : True := trivial
theorem fin_.tw5150023776759504437 : True := trivial
theorem fin_.tw9111210672849017371 : True := trivial
theorem fin_.tw4328206531970509087 : True := trivial
theorem fin_.tw13176053412279358174 : True := trivial
theorem fin_.tw9755231652981616034 : True := trivial
theorem fin_.tw1634355589091209816 : True := trivial
theorem fin_.tw12604976772050447940 : True := trivial
theorem fin_.tw18248986542623201363 : True := trivial
theorem fin_.tw3597790104423533366 : True := trivial
theorem fin_.tw14380024160825885038 : True := trivial
theorem fin_.tw11416341023450788469 : True := trivial
theorem fin_.tw16557482832290848634 : True := trivial
theorem fin_.tw2194659798297766269 : True := trivial
theorem fin_.tw12797779407704160795 : True := trivial
theorem fin_.tw1185339842002712247 : True := trivial
theorem fin_.tw805818362633087043 : True := trivial
theorem fin_.tw6219265826489130039 : True := trivial
theorem fin_.tw12527980322417711470 : True := trivial
theorem fin_.tw13127514100661645179 : True := trivial
theorem fin_.tw14776805902490674709 : True := trivial
theorem fin_.tw13541822614263775506 : True := trivial
theorem fin_.tw9372256400617665403 : True := trivial
theorem fin_.tw4056843594307695117 : True := trivial
theorem fin_.tw9111815520220037369 : True := trivial
theorem fin_.tw5542765164209896354 : True := trivial
theorem fin_.tw3942241060041113112 : True := trivial
theorem fin_.tw17272920179065768153 : True := trivial
theorem fin_.tw11258924898128627839 : True := trivial
theorem fin_.tw4019088175154633396 : True := trivial
theorem fin_.tw5697433356871842016 : True := trivial
theorem fin_.tw15957023021632070802 : True := trivial
theorem fin_.tw2686281315042434005 : True := trivial
theorem fin_.tw8946705008337531376 : True := trivial
theorem fin_.tw11417792300387139614 : True := trivial
theorem fin_.tw12229452072864488508 : True := trivial
theorem fin_.tw816690638635227699 : True := trivial
theorem fin_.tw2387194092064311514 : True := trivial
theorem fin_.tw10965726966583322573 : True := trivial
theorem fin_.tw6147924341455679301 : True := trivial
theorem fin_.tw9226718866817563360 : True := trivial
theorem fin_.tw6890917714757805605 : True := trivial
theorem fin_.tw13529693808767401892 : True := trivial
theorem fin_.tw820682586116203611 : True := trivial
theorem fin_.tw13026327036675913279 : True := trivial
theorem fin_.tw9283489905303254480 : True := trivial
theorem fin_.tw1586452548335463547 : True := trivial
theorem fin_.tw5050157298973520469 : True := trivial
theorem fin_.tw7200483995704396379 : True := trivial
theorem fin_.tw13195623831445532713 : True := trivial
theorem fin_.tw3705296434037757405 : True := trivial
theorem fin_.tw6137002370802370027 : True := trivial
theorem fin_.tw4808422518876379752 : True := trivial
theorem fin_.tw7898537676064469222 : True := trivial
theorem fin_.tw10645729717596010712 : True := trivial
theorem fin_.tw8690474167962323890 : True := trivial
theorem fin_.tw1334262441521345105 : True := trivial
theorem fin_.tw5107347423770459644 : True := trivial
theorem fin_.tw16630629501956043439 : True := trivial
theorem fin_.tw15402278399073656305 : True := trivial
theorem fin_.tw9415630922835451784 : True := trivial
theorem fin_.tw8328053152616352858 : True := trivial
theorem fin_.tw17454507589307415076 : True := trivial
theorem fin_.tw9424882349356720857 : True := trivial
theorem fin_.tw8156162135724068992 : True := trivial
theorem fin_.tw13698463272102626843 : True := trivial
theorem fin_.tw14378262122936942054 : True := trivial
theorem fin_.tw3558086826503138954 : True := trivial
theorem fin_.tw9991970422557654543 : True := trivial
theorem fin_.tw16430278878803997806 : True := trivial
theorem fin_.tw17716924645922839117 : True := trivial
theorem fin_.tw3870665962458945081 : True := trivial
theorem fin_.tw9862904136503524261 : True := trivial
theorem fin_.tw2832237072806144959 : True := trivial
theorem fin_.tw17349638194639393883 : True := trivial
theorem fin_.tw17721765400394303929 : True := trivial
theorem fin_.tw17597852264482896440 : True := trivial
theorem fin_.tw16677904111381216252 : True := trivial
theorem fin_.tw16249788631538626600 : True := trivial
theorem fin_.tw17293789610696920740 : True := trivial
theorem fin_.tw16953285425838351482 : True := trivial
theorem fin_.tw8450227293675404234 : True := trivial
theorem fin_.tw13963072064711740119 : True := trivial
theorem fin_.tw2721548924640457754 : True := trivial
theorem fin_.tw609589057832260975 : True := trivial
theorem fin_.tw1088920416123010024 : True := trivial
theorem fin_.tw5952697143001524807 : True := trivial
theorem fin_.tw4154749165582401657 : True := trivial
theorem fin_.tw10047680366033140368 : True := trivial
theorem fin_.tw15731076802990710932 : True := trivial
theorem fin_.tw15979474814766756098 : True := trivial
theorem fin_.tw251268996023964971 : True := trivial
theorem fin_.tw7215879348555904766 : True := trivial
theorem fin_.tw6000972811721091245 : True := trivial
theorem fin_.tw11820464547155480749 : True := trivial
theorem fin_.tw15525169342463763024 : True := trivial
theorem fin_.tw13444003894473439656 : True := trivial
theorem fin_.tw354701606663069443 : True := trivial
theorem fin_.tw3063337590226157730 : True := trivial
theorem fin_.tw2254896574883187510 : True := trivial
theorem fin_.tw6546956471691990188 : True := trivial
theorem fin_.tw15010668596858713647 : True := trivial
theorem fin_.tw2581974346809093369 : True := trivial
theorem fin_.tw13871074834969177391 : True := trivial
theorem fin_.tw10097795968302185344 : True := trivial
theorem fin_.tw12019502361725652373 : True := trivial
theorem fin_.tw17372555802843401076 : True := trivial
theorem fin_.tw6168014340352930513 : True := trivial
theorem fin_.tw12294469340672750545 : True := trivial
theorem fin_.tw6022275968186905422 : True := trivial
theorem fin_.tw4264721696235514525 : True := trivial
theorem fin_.tw16023473567131868043 : True := trivial
theorem fin_.tw14295450522619247686 : True := trivial
theorem fin_.tw10728687538034943724 : True := trivial
theorem fin_.tw652130775777676229 : True := trivial
theorem fin_.tw11673015373518285406 : True := trivial
theorem fin_.tw11744333177471706385 : True := trivial
theorem fin_.tw14821394133678143649 : True := trivial
theorem fin_.tw4727307665148272337 : True := trivial
theorem fin_.tw12790773225916096062 : True := trivial
theorem fin_.tw14843470683170934203 : True := trivial
theorem fin_.tw2149117417814158566 : True := trivial
theorem fin_.tw18260004033986488810 : True := trivial
theorem fin_.tw13944043807754677244 : True := trivial
theorem fin_.tw14700349257786785822 : True := trivial
theorem fin_.tw6747166277068248072 : True := trivial
theorem fin_.tw11121072467985421170 : True := trivial
theorem fin_.tw6449447800184681431 : True := trivial
theorem fin_.tw11634580842418973601 : True := trivial
theorem fin_.tw18187185629278610486 : True := trivial
theorem fin_.tw8304623546322939181 : True := trivial
theorem fin_.tw7829111050378915931 : True := trivial
theorem fin_.tw14110269080940110328 : True := trivial
theorem fin_.tw7566977880644249966 : True := trivial
theorem fin_.tw4028419042037874143 : True := trivial
theorem fin_.tw13965220674497409772 : True := trivial
theorem fin_.tw2167255459381688042 : True := trivial
theorem fin_.tw4960281816336653822 : True := trivial
theorem fin_.tw50692844176047704 : True := trivial
theorem fin_.tw13963843937239443261 : True := trivial
theorem fin_.tw1968357840616140653 : True := trivial
theorem fin_.tw10833903357995762994 : True := trivial
theorem fin_.tw13776184656557704531 : True := trivial
theorem fin_.tw1928163177537507628 : True := trivial
theorem fin_.tw17861448970612953277 : True := trivial
theorem fin_.tw5006060969201809176 : True := trivial
theorem fin_.tw7207388755268979438 : True := trivial
theorem fin_.tw8683503602888524336 : True := trivial
theorem fin_.tw17969098414565647524 : True := trivial
theorem fin_.tw6291313161936090479 : True := trivial
theorem fin_.tw8041328659564793206 : True := trivial
theorem fin_.tw11291306828068225950 : True := trivial
theorem fin_.tw8889659676356590994 : True := trivial
theorem fin_.tw2587459038443818725 : True := trivial
theorem fin_.tw18438634878742351535 : True := trivial
theorem fin_.tw12649426012019684983 : True := trivial
theorem fin_.tw9169346947209503525 : True := trivial
theorem fin_.tw4031427078458355788 : True := trivial
theorem fin_.tw18131625710481381362 : True := trivial
theorem fin_.tw18206148111604059830 : True := trivial
theorem fin_.tw10393900621278866186 : True := trivial
theorem fin_.tw10090282036131825039 : True := trivial
theorem fin_.tw12070845605174355817 : True := trivial
theorem fin_.tw7145235364782627742 : True := trivial
theorem fin_.tw10164232079698002519 : True := trivial
theorem fin_.tw14160583913470127072 : True := trivial
theorem fin_.tw7348223167112510389 : True := trivial
theorem fin_.tw8335583401682291482 : True := trivial
theorem fin_.tw15677175025164350926 : True := trivial
theorem fin_.tw2912506574035600636 : True := trivial
theorem fin_.tw5415665407758794838 : True := trivial
theorem fin_.tw8448474363586524580 : True := trivial
theorem fin_.tw14185010965145191431 : True := trivial
theorem fin_.tw11624588971938788474 : True := trivial
theorem fin_.tw10630680293891246650 : True := trivial
theorem fin_.tw744390114516346947 : True := trivial
theorem fin_.tw11877582876964404689 : True := trivial
theorem fin_.tw5208226920425341666 : True := trivial
theorem fin_.tw29140182447734051 : True := trivial
theorem fin_.tw8391488079685878666 : True := trivial
theorem fin_.tw8061303210888147325 : True := trivial
theorem fin_.tw348604734439744055 : True := trivial
theorem fin_.tw15575844736762169844 : True := trivial
theorem fin_.tw15726927877066434912 : True := trivial
theorem fin_.tw4606635500920192954 : True := trivial
theorem fin_.tw2009401114831701011 : True := trivial
theorem fin_.tw5162526015894243723 : True := trivial
theorem fin_.tw7584976332470446015 : True := trivial
theorem fin_.tw200862066365297548 : True := trivial
theorem fin_.tw7070850274115234618 : True := trivial
theorem fin_.tw6952322416766601117 : True := trivial
theorem fin_.tw6599253375668978310 : True := trivial
theorem fin_.tw8230523777000075640 : True := trivial
theorem fin_.tw18194013281730392043 : True := trivial
theorem fin_.tw2183991873350227546 : True := trivial
theorem fin_.tw9369702584112338568 : True := trivial
theorem fin_.tw13362383456240351067 : True := trivial
theorem fin_.tw7672427133625246189 : True := trivial
theorem fin_.tw2861665230026933992 : True := trivial
theorem fin_.tw5607937984135754720 : True := trivial
theorem fin_.tw5304036972178321602 : True := trivial
theorem fin_.tw18032941036707581218 : True := trivial
theorem fin_.tw8202417507654784278 : True := trivial
theorem fin_.tw15933457970247187625 : True := trivial
theorem fin_.tw10469392583759770458 : True := trivial
theorem fin_.tw3813627578559492071 : True := trivial
theorem fin_.tw16078592818769974308 : True := trivial
theorem fin_.tw11511996145454993115 : True := trivial
theorem fin_.tw12761362294317219671 : True := trivial
theorem fin_.tw12004230792289159143 : True := trivial
theorem fin_.tw14375999606361004722 : True := trivial
theorem fin_.tw4132587457030329989 : True := trivial
theorem fin_.tw16973805821384388873 : True := trivial
theorem fin_.tw7716334282546085920 : True := trivial
theorem fin_.tw4498598772016592794 : True := trivial
theorem fin_.tw10876980138038441479 : True := trivial
theorem fin_.tw2653296738030868966 : True := trivial
theorem fin_.tw3466475268363955524 : True := trivial
theorem fin_.tw4437572797909014349 : True := trivial
theorem fin_.tw11538299410452498658 : True := trivial
theorem fin_.tw7696192202994228197 : True := trivial
theorem fin_.tw11185548797251782109 : True := trivial
theorem fin_.tw1783213715002448343 : True := trivial
theorem fin_.tw2324377308101016620 : True := trivial
theorem fin_.tw2180514569146306363 : True := trivial
theorem fin_.tw15576618320507081404 : True := trivial
theorem fin_.tw2921315164333751933 : True := trivial
theorem fin_.tw9012709419413918031 : True := trivial
theorem fin_.tw11209712921031306770 : True := trivial
theorem fin_.tw10733742971167458788 : True := trivial
theorem fin_.tw4664118948781938138 : True := trivial
theorem fin_.tw3433497936752031778 : True := trivial
theorem fin_.tw5996764955691695204 : True := trivial
theorem fin_.tw17081931527041676991 : True := trivial
theorem fin_.tw908290760954521844 : True := trivial
theorem fin_.tw6881623474813803385 : True := trivial
theorem fin_.tw14880947454725080128 : True := trivial
theorem fin_.tw17139948383365842328 : True := trivial
theorem fin_.tw1933590819584203954 : True := trivial
theorem fin_.tw13221576996980383673 : True := trivial
theorem fin_.tw16821360224133059705 : True := trivial
theorem fin_.tw17734318244546157151 : True := trivial
theorem fin_.tw1167598020031268093 : True := trivial
theorem fin_.tw12935592122619713330 : True := trivial
theorem fin_.tw6620894134634609502 : True := trivial
theorem fin_.tw6229631641974524216 : True := trivial
theorem fin_.tw2388290871488366897 : True := trivial
theorem fin_.tw8592151365677872511 : True := trivial
theorem fin_.tw18326095669119630735 : True := trivial
theorem fin_.tw13185166122785834271 : True := trivial
theorem fin_.tw18368236140356394578 : True := trivial
theorem fin_.tw97216919876540713 : True := trivial
theorem fin_.tw14911517176096027325 : True := trivial
theorem fin_.tw13131094679766037862 : True := trivial
theorem fin_.tw18122642377342314357 : True := trivial
theorem fin_.tw11154911995500091135 : True := trivial
theorem fin_.tw13642915023195482141 : True := trivial
theorem fin_.tw1136958305440368930 : True := trivial
theorem fin_.tw2332370166934254910 : True := trivial
theorem fin_.tw8482716587987447754 : True := trivial
theorem fin_.tw11230495406964944500 : True := trivial
theorem fin_.tw10142304393430548963 : True := trivial
theorem fin_.tw11216337914993521158 : True := trivial
theorem fin_.tw1898577624817013353 : True := trivial
theorem fin_.tw5336398213875611543 : True := trivial
theorem fin_.tw17308116400409289599 : True := trivial
theorem fin_.tw14708089166280027479 : True := trivial
theorem fin_.tw4669455175178072272 : True := trivial
theorem fin_.tw8734832833268871841 : True := trivial
theorem fin_.tw16051749889918857729 : True := trivial
theorem fin_.tw15809121655708305688 : True := trivial
theorem fin_.tw14789795970044143486 : True := trivial
theorem fin_.tw17979024721764767213 : True := trivial
theorem fin_.tw10536955091787190569 : True := trivial
theorem fin_.tw4888664073131808204 : True := trivial
theorem fin_.tw5033493432577313632 : True := trivial
theorem fin_.tw8822562696299015601 : True := trivial
theorem fin_.tw16303873975002251739 : True := trivial
theorem fin_.tw16028237948023789509 : True := trivial
theorem fin_.tw16692852156138901766 : True := trivial
theorem fin_.tw7969540610234752909 : True := trivial
theorem fin_.tw1228526851576740058 : True := trivial
theorem fin_.tw16008262693002122614 : True := trivial
theorem fin_.tw12650325923682617041 : True := trivial
theorem fin_.tw4076794435296541568 : True := trivial
theorem fin_.tw11671066150651156437 : True := trivial
theorem fin_.tw6850878003278036778 : True := trivial
theorem fin_.tw16488272519228796847 : True := trivial
theorem fin_.tw9697924997524391801 : True := trivial
theorem fin_.tw13208888487169204637 : True := trivial
theorem fin_.tw14223824231714153323 : True := trivial
theorem fin_.tw2894565482477592239 : True := trivial
theorem fin_.tw3850160206346674408 : True := trivial
theorem fin_.tw4780023938533243867 : True := trivial
theorem fin_.tw12987762122028502999 : True := trivial
theorem fin_.tw16010513955298146002 : True := trivial
theorem fin_.tw16953617099824343959 : True := trivial
theorem fin_.tw11574409195333322757 : True := trivial
theorem fin_.tw18288788184726417846 : True := trivial
theorem fin_.tw11088381108970287475 : True := trivial
theorem fin_.tw239406595707002067 : True := trivial
theorem fin_.tw1324506313726261073 : True := trivial
theorem fin_.tw16580229840340482581 : True := trivial
theorem fin_.tw1024709461353388216 : True := trivial
theorem fin_.tw602166427846771211 : True := trivial
theorem fin_.tw9042177454882980665 : True := trivial
theorem fin_.tw2545957629327300566 : True := trivial
theorem fin_.tw14672245669738957926 : True := trivial
theorem fin_.tw10675384589730916026 : True := trivial
theorem fin_.tw17341349350241828673 : True := trivial
theorem fin_.tw5224393076916533018 : True := trivial
theorem fin_.tw3082511884302517422 : True := trivial
theorem fin_.tw3509093097296578315 : True := trivial
theorem fin_.tw13168194357963586602 : True := trivial
theorem fin_.tw1995016389225976708 : True := trivial
theorem fin_.tw1199284096697835498 : True := trivial
theorem fin_.tw1389371689550780555 : True := trivial
theorem fin_.tw10994310680795248770 : True := trivial
theorem fin_.tw10143505982187711081 : True := trivial
theorem fin_.tw172534879890830130 : True := trivial
theorem fin_.tw18161273041113393111 : True := trivial
theorem fin_.tw2600386025778373530 : True := trivial
theorem fin_.tw14679430815401948819 : True := trivial
theorem fin_.tw16825810251896291629 : True := trivial
theorem fin_.tw16672746070027336622 : True := trivial
theorem fin_.tw11008997395722308948 : True := trivial
theorem fin_.tw13182769969810395561 : True := trivial
theorem fin_.tw1964432101789782091 : True := trivial
theorem fin_.tw1260971040626876044 : True := trivial
theorem fin_.tw16101697792855945844 : True := trivial
theorem fin_.tw2228649755284596209 : True := trivial
theorem fin_.tw12465111287605975516 : True := trivial
theorem fin_.tw131778439853647169 : True := trivial
theorem fin_.tw7943714353444946005 : True := trivial
theorem fin_.tw17983416783539293716 : True := trivial
theorem fin_.tw8048789093469624299 : True := trivial
theorem fin_.tw16916456397879128315 : True := trivial
theorem fin_.tw10089006582184579344 : True := trivial
theorem fin_.tw4763102526135333150 : True := trivial
theorem fin_.tw17834123058570176378 : True := trivial
theorem fin_.tw14998403270007112970 : True := trivial
theorem fin_.tw6205803773847930275 : True := trivial
theorem fin_.tw11964437307298418626 : True := trivial
theorem fin_.tw18033867329845206845 : True := trivial
theorem fin_.tw5099478013151740599 : True := trivial
theorem fin_.tw11782129491611354654 : True := trivial
theorem fin_.tw3357496340832023925 : True := trivial
theorem fin_.tw12628300895855327075 : True := trivial
theorem fin_.tw3742057354017261866 : True := trivial
theorem fin_.tw7451520289602714211 : True := trivial
theorem fin_.tw6399762045574669811 : True := trivial
theorem fin_.tw1661593590084659778 : True := trivial
theorem fin_.tw7524555739374234711 : True := trivial
theorem fin_.tw11844561134875798371 : True := trivial
theorem fin_.tw5787720996254101535 : True := trivial
theorem fin_.tw6630395018030198168 : True := trivial
theorem fin_.tw11847517015940697792 : True := trivial
theorem fin_.tw10409964451950452157 : True := trivial
theorem fin_.tw10939238453615756839 : True := trivial
theorem fin_.tw10032373237167536774 : True := trivial
theorem fin_.tw12993031373650423828 : True := trivial
theorem fin_.tw15261201442324233240 : True := trivial
theorem fin_.tw13377873461956610540 : True := trivial
theorem fin_.tw4938748565682903979 : True := trivial
theorem fin_.tw7091706284399084786 : True := trivial
theorem fin_.tw11263191121068856322 : True := trivial
theorem fin_.tw10378731563703484449 : True := trivial
theorem fin_.tw950816507276806587 : True := trivial
theorem fin_.tw2156591591995338633 : True := trivial
theorem fin_.tw8606379768935193720 : True := trivial
theorem fin_.tw18370298779874623017 : True := trivial
theorem fin_.tw5575941977476728152 : True := trivial
theorem fin_.tw2995896172134904451 : True := trivial
theorem fin_.tw122312618325160614 : True := trivial
theorem fin_.tw17267251223150171975 : True := trivial
theorem fin_.tw6321891743370391875 : True := trivial
theorem fin_.tw14020654404921117055 : True := trivial
theorem fin_.tw11432828249225391367 : True := trivial
theorem fin_.tw11007516136272414296 : True := trivial
theorem fin_.tw7956489533210566618 : True := trivial
theorem fin_.tw8681263730044083387 : True := trivial
theorem fin_.tw16094923603672806353 : True := trivial
theorem fin_.tw446157067262668443 : True := trivial
theorem fin_.tw4571835828805164156 : True := trivial
theorem fin_.tw17654028718035565961 : True := trivial
theorem fin_.tw16944007752872895068 : True := trivial
theorem fin_.tw17773699919651321828 : True := trivial
theorem fin_.tw1742500426595148303 : True := trivial
theorem fin_.tw12757439467154863509 : True := trivial
theorem fin_.tw3846583322261649871 : True := trivial
theorem fin_.tw1518350906674876792 : True := trivial
theorem fin_.tw15960765328036277464 : True := trivial
theorem fin_.tw5916543304137520159 : True := trivial
theorem fin_.tw4537700854203933338 : True := trivial
theorem fin_.tw2633736374115895504 : True := trivial
theorem fin_.tw6723118949502200988 : True := trivial
theorem fin_.tw9254378428770897148 : True := trivial
theorem fin_.tw16861394288452175157 : True := trivial
theorem fin_.tw12232057436080662372 : True := trivial
theorem fin_.tw18171193304166341930 : True := trivial
theorem fin_.tw3929217503364486117 : True := trivial
theorem fin_.tw995468949207756591 : True := trivial
theorem fin_.tw11537203298944326755 : True := trivial
theorem fin_.tw3370067903736596001 : True := trivial
theorem fin_.tw16848476286390234188 : True := trivial
theorem fin_.tw7514666189563671994 : True := trivial
theorem fin_.tw7840416479641892291 : True := trivial
theorem fin_.tw9413824567952463381 : True := trivial
theorem fin_.tw7628430213918081072 : True := trivial
theorem fin_.tw14480419371867639332 : True := trivial
theorem fin_.tw13161676396992030438 : True := trivial
theorem fin_.tw10342131270448647447 : True := trivial
theorem fin_.tw12662322684817831266 : True := trivial
theorem fin_.tw17864977214445552825 : True := trivial
theorem fin_.tw16281060650069012862 : True := trivial
theorem fin_.tw9801571179748158530 : True := trivial
theorem fin_.tw17825704464020956279 : True := trivial
theorem fin_.tw501772466720303937 : True := trivial
theorem fin_.tw1601405205739286853 : True := trivial
theorem fin_.tw4822897490025461357 : True := trivial
theorem fin_.tw14965164067800090867 : True := trivial
theorem fin_.tw4714795558552876873 : True := trivial
theorem fin_.tw2785353633512078855 : True := trivial
theorem fin_.tw633624930615662865 : True := trivial
theorem fin_.tw14357917691191784135 : True := trivial
theorem fin_.tw11917591670475704182 : True := trivial
theorem fin_.tw17398516284743174298 : True := trivial
theorem fin_.tw13355216740292737100 : True := trivial
theorem fin_.tw12854420955990062979 : True := trivial
theorem fin_.tw265105216031144611 : True := trivial
theorem fin_.tw10662470094304541574 : True := trivial
theorem fin_.tw3902466834849539471 : True := trivial
theorem fin_.tw2638189438837332330 : True := trivial
theorem fin_.tw154525162206858273 : True := trivial
theorem fin_.tw11065359799875987109 : True := trivial
theorem fin_.tw7302328164026419663 : True := trivial
theorem fin_.tw527150198747643161 : True := trivial
theorem fin_.tw4115916983066988724 : True := trivial
theorem fin_.tw13822886942334904599 : True := trivial
theorem fin_.tw9678010116580680875 : True := trivial
theorem fin_.tw1711314803957694967 : True := trivial
theorem fin_.tw69747346781709813 : True := trivial
theorem fin_.tw11498239121740663623 : True := trivial
theorem fin_.tw9483010919281268389 : True := trivial
theorem fin_.tw11996535515151213896 : True := trivial
theorem fin_.tw5752381008914887804 : True := trivial
theorem fin_.tw577799023782959030 : True := trivial
theorem fin_.tw14980840189763100984 : True := trivial
theorem fin_.tw1167824991704534455 : True := trivial
theorem fin_.tw10056226731726085658 : True := trivial
theorem fin_.tw6646027479576275778 : True := trivial
theorem fin_.tw10260611770247555413 : True := trivial
theorem fin_.tw4227566065128550478 : True := trivial
theorem fin_.tw4658443651302924387 : True := trivial
theorem fin_.tw15355738204501370898 : True := trivial
theorem fin_.tw14579531771997028211 : True := trivial
theorem fin_.tw5123558968822890146 : True := trivial
theorem fin_.tw16933358996997288690 : True := trivial
theorem fin_.tw16283619092643171656 : True := trivial
theorem fin_.tw7536215961001492244 : True := trivial
theorem fin_.tw14529089191217983923 : True := trivial
theorem fin_.tw17084688552793805225 : True := trivial
theorem fin_.tw18034273129407067508 : True := trivial
theorem fin_.tw9383906438508078463 : True := trivial
theorem fin_.tw17352407257243663146 : True := trivial
theorem fin_.tw5572863484597888202 : True := trivial
theorem fin_.tw14029700467665142945 : True := trivial
theorem fin_.tw16451316979934208728 : True := trivial
theorem fin_.tw10426017354536701124 : True := trivial
theorem fin_.tw4884709257358105253 : True := trivial
theorem fin_.tw10641106619575733335 : True := trivial
theorem fin_.tw17883214483165821216 : True := trivial
theorem fin_.tw11519908280710046796 : True := trivial
theorem fin_.tw12658329792905602955 : True := trivial
theorem fin_.tw6017533948460167168 : True := trivial
theorem fin_.tw15824537873068189693 : True := trivial
theorem fin_.tw357486453476387696 : True := trivial
set_option Elab.async true in
set_option maxHeartbeats 8000000 in
theorem fin_ : PySem.Challenge.rw_sq0052_01.Holds := by
  w_on
  o_law
  o_head (kHook hd.heap_1 [2, 3, 15, 17, 18, 20, 21, 22, 29, 30, 32, 33, 35, 36, 37, 38, 39, 40, 43, 50, 51, 52, 55, 62, 63, 64, 67, 74, 75, 76, 83, 85, 86, 88, 89, 90, 92, 93, 95, 96, 97, 99, 100, 102, 103, 104, 106, 107, 109, 110, 111, 113, 114, 116, 117, 118, 120, 121, 123, 124, 125, 127, 128, 130, 131, 132, 134, 135, 137, 138, 139, 141, 142, 144, 145, 146, 148, 149, 151, 152, 153, 155, 156, 158, 159, 160, 162, 163, 165, 166, 174, 175, 177, 178, 180, 181, 182, 184, 185, 187, 188, 189, 191, 192, 194, 195, 196, 198, 199, 201, 202, 203, 205, 206, 208, 209, 210, 212, 213, 215, 216, 217, 219, 220, 222, 223, 224, 225, 227, 228, 230, 231, 232, 233, 234, 235, 236, 239, 241, 242, 244, 245, 253, 255, 256, 258, 259, 260, 262, 263, 265, 266, 267, 269, 270, 272, 273, 274, 276, 277, 279, 280, 281, 283, 284, 286, 287, 288, 290, 291, 293, 294, 295, 296, 297, 298, 299, 333, 335, 336, 338, 339, 340, 341, 342, 343, 344, 354, 356, 357, 359, 360, 361, 362, 363, 364, 365, 375, 377, 378, 380, 381, 382, 383, 384, 385, 386, 396, 397, 399, 400, 402, 403, 404, 405, 406, 407, 408, 418, 420, 421, 423, 424, 425, 426, 427, 428, 429, 439, 441, 442, 444, 445, 446, 447, 448, 449, 450, 453, 455, 456, 458, 459, 460, 463, 464, 465, 467, 468, 470, 471, 472, 473, 476, 477, 478, 479, 482, 483, 484, 487, 488, 489, 492, 493, 494, 497, 498, 499, 501, 502, 504, 505, 506, 508, 509, 511, 512, 513, 515, 516, 518, 519, 528, 530, 531, 533, 534, 535, 537, 538, 540, 541, 542, 544, 545, 547, 548, 549, 551, 552, 554, 555, 556, 558, 559, 561, 562, 563, 565, 566, 568, 569, 570, 572, 573, 575, 576, 577, 579, 580, 582, 583, 584, 586, 587, 589, 590, 591, 593, 594, 596, 597, 598, 600, 601, 603, 604, 605, 606, 608, 609, 611, 612, 613, 615, 616, 618, 619, 620, 622, 623, 625, 626, 627, 629, 630, 632, 633, 634, 636, 637, 639, 640, 641, 644, 645, 646, 648, 649, 651, 652, 653, 655, 656, 658, 659, 660, 662, 663, 665, 666] (fun _ => by kernel_rfl))
  case hw => w_witness2
  k_go0
  all_goals try k_fold
  repeat' (first
    | (k_unfold; (try dsimp only))
    | (k_end; wrow_close)
    | ((fail_if_success (with_reducible show wpAny _ _ _ _ _ _)); with_reducible ((k_dflt (refine' ⟨_, _, _, _, _, _, _, _, ?a_30_16, ?b_30_16, ?n0_30_16, ?n1_30_16, ?p_30_16, ?c_30_16, ?d_30_16⟩; (case a_30_16 => exact rfl); (case b_30_16 => exact rfl); (case c_30_16 => assumption); (case d_30_16 => assumption); (case n0_30_16 => first | with_reducible assumption | decide); (case n1_30_16 => first | with_reducible assumption | decide); (case p_30_16 => with_reducible assumption)))))
    | ((with_reducible show wpAny _ _ (eval (Expr.IfExp _ _ _ _) _) _ _ _); first
      | with_reducible ((k_here; (with_reducible show wpAny _ _ (eval (Expr.IfExp _ _ _ ⟨463, 27, 463, 71⟩) _) _ _ _); (fail_if_success (with_reducible show wpAny _ _ _ (NMid _ _ _ _ _ _) _ _)); focus (refine' n_cut ?k1_30_15 ?k2_30_15 ?_ ?_; (case k1_30_15 => k_asm); (case k2_30_15 => k_asm); (intro n' t' a' ta' b' tb' h' tk' n0' n1' hp' F' N'; (try k_sweep)))))
      | with_reducible ((k_here; (with_reducible show wpAny _ _ (eval (Expr.IfExp _ _ _ ⟨467, 18, 467, 90⟩) _) _ _ _); (fail_if_success (with_reducible show wpAny _ _ _ (TopMid _ _ _ _ _ _) _ _)); (with_reducible rename NodeAt _ _ _ _ => nN9); focus (refine' top_cut nN9 ?k1_30_7 ?k2_30_7 ?_ ?_; (case k1_30_7 => k_asm); (case k2_30_7 => k_asm); (intro t' h' tk' F' N'; (try k_sweep))))))
    | ((fail_if_success (with_reducible show wpAny _ _ _ _ _ _)); with_reducible (first | (dsimp only [LwEnd]; k_dflt (refine' ⟨_, _, _, _, _, _, _, ?a_30_14, ?b_30_14, cb_drop ?c_30_14 ?d_30_14, ?e_30_14, ?f_30_14⟩; (case a_30_14 => exact rfl); (case b_30_14 => assumption); (case c_30_14 => k_asm); (case d_30_14 => refine List.forall_mem_cons.mpr ⟨by k_mem, fun q9 hq9 => by k_mem⟩); (case e_30_14 => exact rfl); (case f_30_14 => assumption))) | dsimp only [LwEnd]))
    | ((fail_if_success (with_reducible show wpAny _ _ _ _ _ _)); with_reducible ((k_dflt (refine' ⟨_, _, _, ?a_30_13, ?b_30_13, ?c_30_13, ?d_30_13⟩; (case a_30_13 => exact rfl); (case b_30_13 => first | exact rfl | ((with_reducible rename NodeAt _ _ _ _ => nN9); rw [height_zero nN9 (by omega) (by omega)])); (case c_30_13 => assumption); (case d_30_13 => assumption)))))
    | ((with_reducible show wpAny _ _ (compareOp _ _ _) _ _ _); first
      | with_reducible ((k_here; k_dflt (refine' seen_same ?N_30_12 ?ra_30_12 ?rb_30_12 ?ha_30_12 ?hb_30_12 ?hu_30_12 ?_; (case N_30_12 => k_asm); (case ra_30_12 => with_reducible assumption); (case rb_30_12 => with_reducible assumption); (case hu_30_12 => k_units); (case ha_30_12 => (intro p9 hp9; (rcases List.mem_append.mp hp9 with hp9 | hp9); (k_qdec); (rcases List.mem_cons.mp hp9 with hp9 | hp9); (subst hp9; k_mem); (k_qdec))); (case hb_30_12 => (intro p9 hp9; (rcases List.mem_append.mp hp9 with hp9 | hp9); (k_qdec); (rcases List.mem_cons.mp hp9 with hp9 | hp9); (subst hp9; k_mem); (k_qdec))); k_whole)))
      | with_reducible ((k_here; k_dflt (refine' ne_pair ?N_30_11 ?ha_30_11 ?hb_30_11 ?hx_30_11 ?hy_30_11 ?hu_30_11 ?_; (case N_30_11 => k_asm); (case ha_30_11 => k_mem); (case hb_30_11 => k_mem); (case hu_30_11 => k_units); (case hx_30_11 => omega); (case hy_30_11 => omega); k_whole)))
      | with_reducible ((k_here; (with_reducible show wpAny _ _ (compareOp _ (.bool _) (.bool (decide _))) _ _ _); first | (refine' ne_tt ?a_30_2 ?_; (case a_30_2 => omega)) | (refine' ne_ff ?a_30_2 ?_; (case a_30_2 => omega)))))
    | ((with_reducible show wpAny _ _ (call _ _) _ _ _); (try k_fold); first
      | with_reducible ((k_here; (with_reducible show wpAny _ _ (call (Value.ref 659) [Value.ref _]) _ _ _); (with_reducible rename NodeAt _ _ _ _ => nN9); focus (k_dflt (refine' hung_use ?kU_30_10 ?m0_30_10 ?n0_30_10 ?ml_30_10 ?n1_30_10 nN9 ?hs_30_10 ?ho_30_10 ?k1_30_10 ?kx_30_10 ?kt_30_10 ?k2_30_10 ?k3_30_10 ?k4_30_10 ?k5_30_10 ?kK_30_10 ?kd_30_10 ?ku_30_10 ?_ ?_; (case k1_30_10 => k_asm); (case k2_30_10 => k_asm); (case k3_30_10 => k_asm); (case k4_30_10 => k_asm); (case k5_30_10 => k_asm); (case kx_30_10 => k_asm); (case kt_30_10 => k_asm); (case kK_30_10 => first | exact rfl | assumption); (case kd_30_10 => k_room); (case ku_30_10 => k_units); (case m0_30_10 => k_mem); (case n0_30_10 => assumption); (case kU_30_10 => k_updF); (case ml_30_10 => k_mem); (case n1_30_10 => assumption); (case hs_30_10 => (intro p9 hp9; (with_reducible rename ∀ p ∈ _, p ∈ _ => hs9); (have h9 := hs9 p9 hp9); k_mem)); (case ho_30_10 => with_reducible assumption)); rotate_left; (intro nb' h' tk' F' N'; (try k_sweep); (try (exfalso; omega))); rotate_right; (intro b1' b2' h' tk' u1' u2' F' N'; (try dsimp only at N'); (try k_sweep); (try (exfalso; omega))))))
      | with_reducible ((k_here; (with_reducible show wpAny _ _ (call _ [_, Value.ref 363]) _ _ _); k_dflt (refine' isrule_ ?k1_30_9 ?k2_30_9 ?k3_30_9 ?k4_30_9 ?k5_30_9 ?k6_30_9 ?_; (case k1_30_9 => with_reducible assumption); (case k3_30_9 => k_asm); (case k4_30_9 => k_asm); (case k5_30_9 => k_asm); (case k6_30_9 => omega); (case k2_30_9 => (intro p9 hp9; (with_reducible rename ∀ p ∈ _, p ∈ _ => hs9); (have h9 := hs9 p9 hp9); k_qdec)); k_whole); intro t'))
      | with_reducible ((k_here; (with_reducible show wpAny _ _ (call _ [_, Value.ref 342]) _ _ _); k_dflt (refine' isbox_ ?k1_30_8 ?k2_30_8 ?k3_30_8 ?k4_30_8 ?k5_30_8 ?_; (case k1_30_8 => with_reducible assumption); (case k3_30_8 => k_asm); (case k4_30_8 => k_asm); (case k5_30_8 => k_asm); (case k2_30_8 => (intro p9 hp9; (with_reducible rename ∀ p ∈ _, p ∈ _ => hs9); (have h9 := hs9 p9 hp9); k_qdec)); k_whole); intro t'))
      | with_reducible ((k_here; (with_reducible show wpAny _ _ (call (Value.ref 652) [Value.ref _]) _ _ _); (with_reducible rename NodesAt _ _ _ _ => nX9); k_dflt (refine' seen_use ?m0_30_6 ?m1_30_6 ?m2_30_6 ?q0_30_6 ?q1_30_6 ?m3_30_6 nX9 ?l_30_6 ?z_30_6 ?k1_30_6 ?k2_30_6 ?k3_30_6 ?k4_30_6 ?k5_30_6 ?kK_30_6 ?kd_30_6 ?ku_30_6 ?_; (case k1_30_6 => k_asm); (case k2_30_6 => k_asm); (case k3_30_6 => k_asm); (case k4_30_6 => k_asm); (case k5_30_6 => k_asm); (case kK_30_6 => first | exact rfl | assumption); (case kd_30_6 => k_room); (case ku_30_6 => k_units); (case m0_30_6 => k_mem); (case m1_30_6 => k_mem); (case m2_30_6 => k_mem); (case m3_30_6 => k_mem); (case q0_30_6 => assumption); (case q1_30_6 => assumption); (case z_30_6 => with_reducible assumption); (case l_30_6 => (intro p9 hp9; k_mem)); k_whole); intro sp' fr' h' tk' ap' of' rd' F' N'))
      | with_reducible ((k_here; (with_reducible show wpAny _ _ (call (Value.ref 645) [Value.ref _]) _ _ _); focus (k_dflt (refine' made_use _ ?ho_30_5 ?hp_30_5 ?k1_30_5 ?kx_30_5 ?kt_30_5 ?k2_30_5 ?k3_30_5 ?k4_30_5 ?k5_30_5 ?kK_30_5 ?kd_30_5 ?ku_30_5 ?_ ?_; (case k1_30_5 => k_asm); (case k2_30_5 => k_asm); (case k3_30_5 => k_asm); (case k4_30_5 => k_asm); (case k5_30_5 => k_asm); (case kx_30_5 => k_asm); (case kt_30_5 => k_asm); (case kK_30_5 => first | exact rfl | assumption); (case kd_30_5 => k_room); (case ku_30_5 => k_units); (case ho_30_5 => with_reducible assumption); (case hp_30_5 => with_reducible assumption)); (intro a' ta' b' tb' h' tk' hp' F' N'; (try k_sweep)); rotate_left; (intro bx' dbx' rt' l' a0' a1' a2' a3' a4' a5' a6' a7' a8' t1' t2' t3' t4' t5' t6' t7' t8' t9' wd' hh' dd' sg' od' pp' qq' v0' vr' nl' new' nd' nds' a' ta' b' tb' h' tk' hp' hNs' hN' hs' z8' o1' o2' o3' o4' o5' o6' o7' o8' q0' q1' b1' b2' b3' b4' F' N'); rotate_right)))
      | with_reducible ((k_here; (with_reducible show wpAny _ _ (call (Value.ref 619) [Value.ref _]) _ _ _); k_dflt (refine' poolX _ ?k1_30_3 ?k2_30_3 ?k3_30_3 ?k4_30_3 ?k5_30_3 ?kK_30_3 ?ks_30_3 ?ki_30_3 ?k6_30_3 ?kd_30_3 ?ku_30_3 ?_; (case k1_30_3 => k_asm); (case k2_30_3 => k_asm); (case k3_30_3 => k_asm); (case k4_30_3 => k_asm); (case k5_30_3 => k_asm); (case kK_30_3 => first | exact rfl | assumption); (case ks_30_3 => with_reducible assumption); (case ki_30_3 => with_reducible assumption); (case k6_30_3 => first | with_reducible assumption | omega); (case kd_30_3 => k_room); (case ku_30_3 => k_units); k_whole); intro pl' a' ta' b' tb' h' tk' hp' off' F' N'; (try k_sweep)))
      | with_reducible ((k_here; (with_reducible show wpAny _ _ (call (Value.type "range") [Value.int _ _]) _ _ _); k_dflt (refine' call_range ?F_28_1 ?N_28_1 ?_; (case F_28_1 => k_asm); (case N_28_1 => k_asm); k_whole); intro r' h' tk' t1' t2' t3' F' N' hr'; (try k_sweep)))
      | with_reducible ((k_here; (with_reducible show wpAny _ _ (call (Value.ref 626) [Value.ref _, Value.int _ _]) _ _ _); k_dflt (refine' take_use ?k1_02_0 ?k2_02_0 ?k3_02_0 ?k4_02_0 ?k5_02_0 ?kK_02_0 ?kU_02_0 ?kp_02_0 ?kn_02_0 ?km_02_0 ?kd_02_0 ?ku_02_0 ?_; (case k1_02_0 => k_asm); (case k2_02_0 => k_asm); (case k3_02_0 => k_asm); (case k4_02_0 => k_asm); (case k5_02_0 => k_asm); (case kK_02_0 => first | exact rfl | assumption); (case kU_02_0 => k_updF); (case kp_02_0 => assumption); (case kn_02_0 => decide); (case km_02_0 => decide); (case kd_02_0 => k_room); (case ku_02_0 => k_units); k_whole); intro k' t' a' ta' b' tb' h' tk' hp' k0' k1' F' N'; (try dsimp only at N'); (try k_sweep))))
    | ((with_reducible show wpAny _ _ (pyIter _) _ _ _); with_reducible ((k_here; (with_reducible rename RangeAt _ _ _ _ _ _ => hr9); focus (with_unfolding_all refine' lw_loop ?k0_30_4 hr9 ?n0_30_4 ?n1_30_4 ?k1_30_4 ?k2_30_4 ?k3_30_4 ?kp_30_4 ?_ ?_; (case k0_30_4 => rfl); (case n0_30_4 => omega); (case n1_30_4 => omega); (case k1_30_4 => k_asm); (case k2_30_4 => k_asm); (case k3_30_4 => rfl); (case kp_30_4 => with_reducible assumption); (intro k' t' a' ta' b' tb' u' h' tk' own' hp' o1' F' N'; (try k_fold)); rotate_left; (intro u' h' tk' F' N'; (try k_sweep); (try k_fold)); rotate_right))))
    | ((with_reducible show wpAny _ _ (subscriptTail _ _ _ _) _ _ _); first
      | with_reducible ((k_here; (with_reducible show wpAny _ _ (subscriptTail _ _ (Value.ref _) (Value.int 1 _)) _ _ _); (refine' sub_two ?k1_30_1 ?k2_30_1 ?_ ?k6_30_1; (case k1_30_1 => k_asm); (case k2_30_1 => k_mem); (case k6_30_1 => with_unfolding_all rfl); k_whole)))
      | with_reducible ((k_here; (with_reducible show wpAny _ _ (subscriptTail _ _ (Value.ref _) (Value.int 0 _)) _ _ _); (refine' sub_pair ?k1_30_0 ?k2_30_0 ?_ ?k6_30_0; (case k1_30_0 => k_asm); (case k2_30_0 => k_mem); (case k6_30_0 => with_unfolding_all rfl); k_whole)))
      | with_reducible ((k_here; (with_reducible show wpAny _ _ (subscriptTail _ _ (Value.ref _) (Value.int 0 _)) _ _ _); (with_unfolding_all refine' sub_first ?k1_19_0 ?k2_19_0 ?_ ?k6_19_0; (case k1_19_0 => k_asm); (case k2_19_0 => k_mem); (case k6_19_0 => with_unfolding_all rfl); k_whole))))
    | ((with_reducible show wpAny _ _ (getAttr _ _ _) _ _ _); (fail_if_success (with_reducible show wpAny _ _ (getAttr (Value.ref _) _ _) _ _ _)); (try k_fold); with_reducible ((k_here; (with_reducible show wpAny _ _ (getAttr _ (Str.ofString "height") _) _ _ _); k_dflt (refine' height_get ?k1_08_5 ?k2_08_5 ?k3_08_5 ?k4_08_5 ?k5_08_5 ?k6_08_5 ?_; (case k1_08_5 => with_reducible assumption); (case k3_08_5 => k_asm); (case k4_08_5 => k_asm); (case k5_08_5 => k_asm); (case k6_08_5 => first | with_reducible assumption | exact kind_34 (by with_reducible assumption) | exact kind_le4 (by with_reducible assumption) rfl); (case k2_08_5 => first | with_reducible assumption | (intro p9 hp9; (with_reducible rename ∀ p ∈ _, p ∈ _ => hs9); (have h9 := hs9 p9 hp9); k_qdec)); k_whole); intro t' k')))
    | ((with_reducible show wpAny _ _ (eval (Expr.Name _ _) _) _ _ _); with_reducible (k_dflt (first | ((with_reducible show wpAny _ _ (eval (Expr.Name _ _) (envOf _ _ _ _ _)) _ _ _); first | (refine' ld ?k1_08_2 ?k2_08_2 ?_ (hk := rfl) (hl := ?kl_08_2) (hd := ?kd_08_2); (case kl_08_2 => kernel_rfl); (case k1_08_2 => with_reducible assumption); (case k2_08_2 => exact rfl); (case kd_08_2 => decide +kernel)) | (refine' name_K ?kF_08_2 ?k1_08_2 ?k2_08_2 ?k3_08_2 ?_ (hk := rfl) (hx := ?kl_08_2) (hd := ?kd_08_2); (case kF_08_2 => with_reducible assumption); (case k1_08_2 => with_reducible assumption); (case k2_08_2 => k_asm); (case k3_08_2 => k_is); (case kl_08_2 => kernel_rfl); (case kd_08_2 => decide +kernel); k_whole)))))
    | ((with_reducible show ite _ _ _); first
      | with_reducible ((k_closed; k_dflt (first | refine ite_pos (by decide) ?_ | refine ite_neg (by decide) ?_)))
      | with_reducible ((k_here; k_openite; k_spoken; first | (refine ite_pos (by first | omega | (simp only [decide_eq_true_eq, beq_iff_eq, bne_iff_ne, ne_eq]; omega)) ?_; walk_say "DECIDED") | (refine ite_neg (by first | omega | (simp only [decide_eq_true_eq, beq_iff_eq, bne_iff_ne, ne_eq]; omega)) ?_; walk_say "DECIDED"))))
    | ((with_reducible show wpAny _ _ (binaryOp _ _ _) _ _ _); with_reducible (first | with_reducible refine pow_2_30 ?_ | with_reducible refine pow_10_18 ?_ | with_reducible refine pow_10_120 ?_))
    | walk1
    | (dsimp only; walk1)
    | (leave1; walk_say "STEP leave1"; try dsimp only)
    | fail "no step")
end Mine
set_option maxHeartbeats 8000000 in
theorem PySem.Challenge.cw_sq0052_01_holds : PySem.Challenge.rw_sq0052_01.Holds := by
  exact Mine.fin_
