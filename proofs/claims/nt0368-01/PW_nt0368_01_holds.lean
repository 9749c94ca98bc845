import PyProof.Rows.All
import Wide.All
import OpenK.AllK
import Wide.FinOn
import PySem.Challenge.RW_nt0368_01
set_option Elab.async false
set_option maxRecDepth 100000
set_option maxHeartbeats 4000000
set_option linter.unusedSimpArgs false
set_option linter.unusedVariables false
set_option compiler.extract_closed false
namespace Mine
open PySem PySem.Spec PySem.Calls PyProof.Rows PySem.W
local macro_rules | `(tactic| walk_at "ar") => `(tactic| first | lia | omega)
noncomputable def keepIt : Stmt → Bool
  | .Assign [.Name x _] _ _ => !(x == Str.ofString "__name__")
  | _ => true
noncomputable def view : Program := { PySem.Challenge.pw_nt0368_01 with main := { PySem.Challenge.pw_nt0368_01.main with body := PySem.Challenge.pw_nt0368_01.main.body.filter keepIt } }
noncomputable def looseN : List Str := [Str.ofString "SIGN_BIT", Str.ofString "FRACTION_MASK", Str.ofString "HIDDEN_BIT_dbits", Str.ofString "NEG_ZERO", Str.ofString "INF", Str.ofString "NAN", Str.ofString "HIDDEN_BIT_numshow"]
theorem left_boot {p q : Program} {loose : List Str} {Xt : Shared → Bool} {α : Type} {Yf : Shared → α} {Ya : World → α} {N : Nat} {g0 : Bool}
    (hb : ∀ w : World, (fencedOpening treeTable p w N).map (fun s => (s.heap, s.gens, s.drawn, s.toks)) = some (boot_heap w.params, Array.mk [], boot_drawn, boot_toks))
    (h : ∀ (w : World) (os : OsState), (topFrom treeTable p w N ⟨boot_heap w.params, Array.mk [], boot_drawn, boot_toks, os⟩).map (fun s => (openSeen q loose (importedModules p.main.body) Xt g0 s, Yf s)) = some (openGood q loose, Ya w)) : LeftO p q loose Xt Yf Ya N g0 := fun w => by
  obtain ⟨⟨hh, gs, d, k, os⟩, e, e'⟩ := Option.map_eq_some_iff.mp (hb w)
  obtain ⟨rfl, rfl, rfl, rfl⟩ : hh = boot_heap w.params ∧ gs = Array.mk [] ∧ d = boot_drawn ∧ k = boot_toks := by simpa using e'
  unfold openEnds
  rw [e]
  exact h w os
/-- what is seen after the top, look by look -/
theorem seen_parts {q : Program} {loose mods : List Str} {Xt : Shared → Bool} {α : Type} {Yf : Shared → α} {ya : α} {g0 : Bool} {r : Option Shared} (hy : ∀ s, Yf s = ya)
    (h1 : r.map (fun s => ((openSeen q loose mods Xt g0 s).1, (openSeen q loose mods Xt g0 s).2.1)) = some (expectedOf q, bltViewBooted))
    (h2 : r.map (fun s => (openSeen q loose mods Xt g0 s).2.2.1) = some true)
    (h3 : r.map (fun s => ((openSeen q loose mods Xt g0 s).2.2.2.1, (openSeen q loose mods Xt g0 s).2.2.2.2.1, (openSeen q loose mods Xt g0 s).2.2.2.2.2.1, (openSeen q loose mods Xt g0 s).2.2.2.2.2.2.1)) = some (true, pinGoodD (drecsOf q), plainGoodE q (looseW q loose), plainGoodD q loose))
    (h4 : r.map (fun s => (openSeen q loose mods Xt g0 s).2.2.2.2.2.2.2) = some (wideGood q, clsGoodW q loose)) :
    r.map (fun s => (openSeen q loose mods Xt g0 s, Yf s)) = some (openGood q loose, ya) := by
  cases r with
  | none => exact nomatch h2
  | some s =>
    rw [Option.map_some, Option.some.injEq] at *
    obtain ⟨a1, a2⟩ := Prod.mk.inj h1
    obtain ⟨b1, b2⟩ := Prod.mk.inj h3
    obtain ⟨b2, b3⟩ := Prod.mk.inj b2
    obtain ⟨b3, b4⟩ := Prod.mk.inj b3
    exact Prod.ext (Prod.ext a1 (Prod.ext a2 (Prod.ext h2 (Prod.ext b1 (Prod.ext b2 (Prod.ext b3 (Prod.ext b4 h4))))))) (hy s)
noncomputable def topN (w : World) (os : OsState) : Option Shared := topFrom treeTable PySem.Challenge.rw_nt0368_01.row.prog w 4176 ⟨boot_heap w.params, Array.mk [], boot_drawn, boot_toks, os⟩
noncomputable def seenN (s : Shared) := openSeen view looseN (importedModules PySem.Challenge.rw_nt0368_01.row.prog.main.body) (fun s => xlAt view [] s && recOk (RowW.records PySem.Challenge.rw_nt0368_01.row.toRowW) s) true s
theorem left1 (w : World) (os : OsState) : (topN w os).map (fun s => ((seenN s).1, (seenN s).2.1)) = some (expectedOf view, bltViewBooted) := by
  unfold topN topFrom seenN
  rw [PySem.W.Fast.te14082659384304107361, PySem.W.Fast.te4187177175401517315, PySem.W.Fast.te14364793385576792824]
  kernel_rfl
theorem left2 (w : World) (os : OsState) : (topN w os).map (fun s => (seenN s).2.2.1) = some true := by
  unfold topN topFrom seenN
  rw [PySem.W.Fast.te14082659384304107361, PySem.W.Fast.te4187177175401517315, PySem.W.Fast.te14364793385576792824]
  kernel_rfl
theorem left3 (w : World) (os : OsState) : (topN w os).map (fun s => ((seenN s).2.2.2.1, (seenN s).2.2.2.2.1, (seenN s).2.2.2.2.2.1, (seenN s).2.2.2.2.2.2.1)) = some (true, pinGoodD (drecsOf view), plainGoodE view (looseW view looseN), plainGoodD view looseN) := by
  unfold topN topFrom seenN
  rw [PySem.W.Fast.te14082659384304107361, PySem.W.Fast.te4187177175401517315, PySem.W.Fast.te14364793385576792824]
  kernel_rfl
theorem left4 (w : World) (os : OsState) : (topN w os).map (fun s => (seenN s).2.2.2.2.2.2.2) = some (wideGood view, clsGoodW view looseN) := by
  unfold topN topFrom seenN
  rw [PySem.W.Fast.te14082659384304107361, PySem.W.Fast.te4187177175401517315, PySem.W.Fast.te14364793385576792824]
  kernel_rfl
theorem left : LeftO PySem.Challenge.rw_nt0368_01.row.prog view looseN (fun s => xlAt view [] s && recOk (RowW.records PySem.Challenge.rw_nt0368_01.row.toRowW) s) Hook.none.obs Hook.none.val 4176 := by
  refine left_boot (boot_open (by kernel_rfl) (by kernel_rfl) (fun s => by kernel_rfl)) fun w os => ?_
  exact seen_parts (fun _ => rfl) (left1 w os) (left2 w os) (left3 w os) (left4 w os)
/-- the looks at the law's text -/
theorem said : OpenLaw.wellSaid PySem.Challenge.rw_nt0368_01 = true := by
  unfold OpenLaw.wellSaid OpenRow.wellSaid OpenRow.partSaid looksOpen
  repeat' (with_reducible refine look_both ?_ ?_)
  all_goals first | decide +kernel | kernel_rfl
theorem tn (a b : Int) : ((a - b).toNat : Int) = (b - a).toNat + (a - b) := by lia
theorem tn0 (a : Int) : (a.toNat : Int) = (-a).toNat + a := by
  have h := tn a 0
  rw [Int.sub_zero, Int.zero_sub] at h; exact h
theorem sb (a b : Nat) : ((a - b : Nat) : Int) = (b - a : Nat) + ((a : Int) - b) := by
  rw [← Int.toNat_sub, ← Int.toNat_sub]; exact tn a b
theorem ar_rd (K : Nat) (n : Int) (many : Nat) : (n - (K : Int)).toNat + ((many : Int) - n).toNat + (K - many) = many - K + ((K : Int) - n).toNat + (n - (many : Int)).toNat := by
  have h1 := tn n K
  have h2 := tn n many
  have h3 := sb K many
  generalize (n - (K : Int)).toNat = x1, ((K : Int) - n).toNat = x2, (n - (many : Int)).toNat = x3, ((many : Int) - n).toNat = x4, (many - K) = x5, (K - many) = x6 at *
  lia
theorem ar_rd1 (P : Int) (many : Nat) : (P - ((1 : Nat) : Int)).toNat + ((many : Int) - (P - 1)).toNat = many + (((1 : Nat) : Int) - P).toNat + (P - 1 - (many : Int)).toNat := by
  have h1 := tn P (1 : Nat)
  have h2 := tn (P - 1) many
  generalize (P - ((1 : Nat) : Int)).toNat = x1, (((1 : Nat) : Int) - P).toNat = x2, (P - 1 - (many : Int)).toNat = x3, ((many : Int) - (P - 1)).toNat = x4 at *
  lia
theorem ar_sh (P : Int) (j : Nat) : ∃ c, P.toNat = (P - (j : Int)).toNat + c ∧ j + (-P).toNat = ((j : Int) - P).toNat + c := by
  obtain ⟨c, hc⟩ := Nat.exists_eq_add_of_le (Int.toNat_le_toNat (Int.sub_le_self P (Int.natCast_nonneg j)))
  refine ⟨c, hc, ?_⟩
  have h1 := tn P j
  have h2 := tn0 P
  rw [hc] at h2
  generalize (P - (j : Int)).toNat = x1, ((j : Int) - P).toNat = x2, (-P).toNat = x3 at *
  lia
theorem ar_mv {P mv : Int} {K mm : Nat} (h : mv = P - (K : Int) + (mm : Int)) : (P - (K : Int)).toNat + (mm + (-mv).toNat) = mv.toNat + ((K : Int) - P).toNat := by
  have h1 := tn P K
  have h2 := tn0 mv
  generalize (P - (K : Int)).toNat = x1, ((K : Int) - P).toNat = x2, mv.toNat = x3, (-mv).toNat = x4 at *
  lia
theorem ltn (x l : Nat) : min x l + (0 + 1 + (l - x)) = l + 1 := by
  have h := Nat.sub_add_min_cancel l x
  rw [Nat.min_comm] at h
  rw [Nat.zero_add, Nat.add_left_comm, Nat.add_comm (min x l), h, Nat.add_comm]
theorem hi63 (b : Nat) : (b + 2 ^ 63) / 2 ^ 52 % 2 ^ 11 = b / 2 ^ 52 % 2 ^ 11 := by
  rw [show (2 : Nat) ^ 63 = 2 ^ 52 * 2 ^ 11 by decide, Nat.add_mul_div_left _ _ (by decide), Nat.add_mod_right]
theorem lo63 (b : Nat) : (b + 2 ^ 63) % 2 ^ 52 = b % 2 ^ 52 := by
  rw [show (2 : Nat) ^ 63 = 2 ^ 52 * 2 ^ 11 by decide, Nat.add_mul_mod_self_left]
theorem mxl {p : Int} {l : Nat} (h0 : 1 ≤ l) (h : (l : Int) ≤ p) : (max p 1).toNat = l + (p - l).toNat := by
  rw [Int.max_eq_left (by lia)]
  have := tn p l
  rw [Int.toNat_eq_zero.mpr (show (l : Int) - p ≤ 0 by lia)] at this
  have h2 : (p.toNat : Int) = p := Int.toNat_of_nonneg (by lia)
  generalize (p - (l : Int)).toNat = x1, p.toNat = x2 at *
  lia
/-- a text cut in two and put together with a sign in between -/
theorem two_cuts {a x l B : Nat} (h : a + l + 1 ≤ B) : a + min x l + (0 + 1) + (l - x) ≤ B := by
  have h2 := ltn x l
  rw [Nat.add_assoc, Nat.add_assoc, h2]
  exact h
theorem one_cut {a x l B : Nat} (h : a + l ≤ B) : a + min x l ≤ B := Nat.le_trans (Nat.add_le_add_left (Nat.min_le_right _ _) _) h
theorem first_cut {x l B : Nat} (h : l + 1 ≤ B) : min x l + (0 + 1) + (l - x) ≤ B := by
  rw [Nat.add_assoc, ltn]; exact h
theorem with_one {x l B : Nat} (h : l + 1 ≤ B) : min x l + 1 ≤ B := Nat.le_trans (Nat.add_le_add_right (Nat.min_le_right _ _) _) h
theorem a_with_one {a x l B : Nat} (h : a + l + 1 ≤ B) : a + min x l + 1 ≤ B := Nat.le_trans (Nat.add_le_add_right (Nat.add_le_add_left (Nat.min_le_right _ _) _) _) h
theorem ar_two {x y i p e L : Nat} (h1 : x ≤ p - i) (h2 : y ≤ e - (p + 1)) (h3 : e ≤ L) (h4 : p ≤ L) : x + y ≤ L := by lia
noncomputable abbrev Led := List (Addr × Obj)
noncomputable abbrev Rho := List (Str × Dat)

/-- the ledger has grown, and what came is none of the reserved ones -/
structure Ext (own news news' : Led) : Prop where
  sub : ∀ p ∈ news, p ∈ news'
  up : ∀ p ∈ news', p ∈ news ∨ ∀ q ∈ own, q.1 ≠ p.1
theorem Ext.refl {own news : Led} : Ext own news news := ⟨fun _ h => h, fun _ h => .inl h⟩
theorem Ext.trans {own a b c : Led} (x : Ext own a b) (y : Ext own b c) : Ext own a c :=
  ⟨fun p h => y.sub p (x.sub p h), fun p h => (y.up p h).elim (fun h => x.up p h) .inr⟩
theorem Ext.cons {own news : Led} {p : Addr × Obj} (h : ∀ q ∈ own, q.1 ≠ p.1) : Ext own news (p :: news) :=
  ⟨fun _ h => .tail _ h, fun q hq => by
    rcases List.mem_cons.mp hq with rfl | hq
    · exact .inr h
    · exact .inl hq⟩

noncomputable def EnvIn (news : Led) (m : Str → Option Value) (ρ : Rho) : Prop := ∀ x d, ρ.lookup x = some d → ∃ v, m x = some v ∧ DatIn news v d
theorem EnvIn.mono {news news' : Led} {m : Str → Option Value} {ρ : Rho} (h : EnvIn news m ρ) (s : ∀ p ∈ news, p ∈ news') : EnvIn news' m ρ :=
  fun x d e => let ⟨v, a, b⟩ := h x d e; ⟨v, a, b.mono s⟩
theorem EnvIn.set {news : Led} {m : Str → Option Value} {ρ : Rho} {x : Str} {v : Value} {d : Dat} (h : EnvIn news m ρ) (hv : DatIn news v d) :
    EnvIn news (fun y => if y = x then some v else m y) ((x, d) :: ρ) := by
  intro y e he
  rw [List.lookup_cons] at he
  by_cases hy : y = x
  · subst hy
    simp only [beq_self_eq_true] at he
    cases he
    exact ⟨v, by simp, hv⟩
  · have : (y == x) = false := by simpa using hy
    rw [this] at he
    obtain ⟨v', a, b⟩ := h y e he
    exact ⟨v', by simp [hy, a], b⟩
theorem EnvIn.sub {news : Led} {m : Str → Option Value} {ρ ρ' : Rho} (h : EnvIn news m ρ) (s : ∀ x d, ρ'.lookup x = some d → ρ.lookup x = some d) : EnvIn news m ρ' :=
  fun x d e => h x d (s x d e)

structure FC where
  prog : Program
  w : World
  p : Program
  loose : List Str
  mean : ExcName → Option Value
  mg : Str → Option Value
  mb : Str → Option Value
  env : Env
  A : Around
  h₀ : Heap
noncomputable abbrev FC.L (c : FC) : Addr := c.env.locals
noncomputable abbrev FC.M (c : FC) : Model := model c.prog c.w

noncomputable def pw : Program := PySem.Challenge.pw_nt0368_01
noncomputable def builtinNames : List Str := ["len", "str", "abs", "int", "max", "min", "ord", "range", "repr", "sum", "chr"]
noncomputable def constNames : List Str := ["SIGN_BIT", "FRACTION_BITS", "FRACTION_MASK", "HIDDEN_BIT_dbits", "EXPONENT_MASK", "EXPONENT_SHIFT", "LEAST_POWER_dbits", "ZERO", "NEG_ZERO", "INF", "NAN", "LEAST_POWER_numshow", "HIDDEN_BIT_numshow", "BLANKS", "MORE_BLANKS", "ENDLESS", "FARTHEST", "_law_none", "_law_endless"]
/-- the plain constants of the text -/
noncomputable def valC (x : Str) : Option PyData := if constNames.contains x then valOf pw x else none
structure Static (p : Program) (mg : Str → Option Value) : Prop where
  fn : ∀ d ∈ recsOf pw, d ∈ recsOf p
  const : ∀ x d, valC x = some d → valOf p x = some d
  free : ∀ x ∈ builtinNames, mg x = none

structure FC.Ok (c : FC) (n : Nat) : Prop where
  T : Top c.p c.loose c.mean c.mg c.mb c.h₀
  S : Static c.p c.mg
  kf : c.env.scope.kind = .function
  gl : c.env.globals = mainGlobals
  bl : c.env.builtins = builtinsNs
  hh : c.A.handled = none
  gd : c.A.guards = some []
  dpr : c.A.depth + n < recursionLimit
  unr : c.A.units + 8 * n + 100 < cLine
  full : n ≠ 0 → ∃ A₀ base outer, Below A₀ base outer c.h₀ ∧ c.A.frames = some (c.env :: outer) ∧ c.env.frame = some c.env.locals

/-- from a state a tree comes back with an a that stands in Ψ, the frame's names as they were -/
noncomputable def Den {α : Type} (c : FC) (m : Str → Option Value) (own news : Led) (t : Sem α) (Ψ : Led → α → Prop) (s : Shared) : Prop :=
  ∀ (Q : α → Shared → Prop) (E : Value → Shared → Prop),
    (∀ a h' tk' news', Fr c.h₀ c.L h' m → News c.h₀ c.L h' (own ++ news') → Ext own news news' → Ψ news' a → Q a { s with heap := h', toks := tk' }) →
    wpAny c.M c.A t Q E s

/-- the state at hand -/
structure St (c : FC) (ρ : Rho) (own news : Led) (m : Str → Option Value) (s : Shared) : Prop where
  F : Fr c.h₀ c.L s.heap m
  N : News c.h₀ c.L s.heap (own ++ news)
  R : EnvIn news m ρ

noncomputable def PE (sc : Scope) (n : Nat) (ρ : Rho) (e : Expr) (Ψ : Dat → Prop) : Prop :=
  ∀ (c : FC) (s : Shared) (m : Str → Option Value) (own news : Led), c.env.scope = sc → c.Ok n → St c ρ own news m s →
    Den c m own news (eval e c.env) (fun nw v => ∃ d, DatIn nw v d ∧ Ψ d) s
noncomputable def PT (sc : Scope) (n : Nat) (ρ : Rho) (e : Expr) (Ψ : Bool → Prop) : Prop :=
  ∀ (c : FC) (s : Shared) (m : Str → Option Value) (own news : Led), c.env.scope = sc → c.Ok n → St c ρ own news m s →
    Den c m own news (isTrue e c.env (eval e c.env)) (fun _ b => Ψ b) s
noncomputable def PEs (sc : Scope) (n : Nat) (ρ : Rho) (es : List Expr) (Ψ : List Dat → Prop) : Prop :=
  ∀ (pos : Pos) (c : FC) (s : Shared) (m : Str → Option Value) (own news : Led), c.env.scope = sc → c.Ok n → St c ρ own news m s →
    Den c m own news (spliced (backTo pos (starEach es c.env))) (fun nw vs => ∃ ds, DatAll nw vs ds ∧ ds.length = es.length ∧ Ψ ds) s
/-- an operation on data -/
noncomputable def PO (n : Nat) (f : List Value → Sem Value) (ds : List Dat) (Ψ : Dat → Prop) : Prop :=
  ∀ (c : FC) (s : Shared) (m : Str → Option Value) (own news : Led) (vs : List Value), c.Ok n → Fr c.h₀ c.L s.heap m → News c.h₀ c.L s.heap (own ++ news) → DatAll news vs ds →
    Den c m own news (f vs) (fun nw v => ∃ d, DatIn nw v d ∧ Ψ d) s

section
variable {α β : Type} {c : FC} {m : Str → Option Value} {own news : Led} {s : Shared} {ρ : Rho}

theorem St.next {h' : Heap} {tk' : Nat} {news' : Led} (S : St c ρ own news m s) (F : Fr c.h₀ c.L h' m) (N : News c.h₀ c.L h' (own ++ news')) (X : Ext own news news') :
    St c ρ own news' m { s with heap := h', toks := tk' } := ⟨F, N, S.R.mono X.sub⟩

/-- sequence -/
theorem Den.then {t : Sem α} {Ψ : Led → α → Prop} {Q : α → Shared → Prop} {E : Value → Shared → Prop} (h : Den c m own news t Ψ s)
    (k : ∀ a h' tk' news', Fr c.h₀ c.L h' m → News c.h₀ c.L h' (own ++ news') → Ext own news news' → Ψ news' a → Q a { s with heap := h', toks := tk' }) :
    wpAny c.M c.A t Q E s := h Q E k

end
section
variable {sc : Scope} {n : Nat} {ρ : Rho} {Ψ : Dat → Prop}

theorem PE.mono {e : Expr} {Ψ' : Dat → Prop} (h : PE sc n ρ e Ψ) (k : ∀ d, Ψ d → Ψ' d) : PE sc n ρ e Ψ' :=
  fun c s m own news hc ok S Q E kk => h c s m own news hc ok S Q E fun v h' tk' nw F N X ⟨d, D, p⟩ => kk v h' tk' nw F N X ⟨d, D, k d p⟩
theorem PT.mono {e : Expr} {Ψ Ψ' : Bool → Prop} (h : PT sc n ρ e Ψ) (k : ∀ d, Ψ d → Ψ' d) : PT sc n ρ e Ψ' :=
  fun c s m own news hc ok S Q E kk => h c s m own news hc ok S Q E fun v h' tk' nw F N X p => kk v h' tk' nw F N X (k v p)

theorem PE.int {i : Int} {k : Nat} {pos : Pos} (h : Ψ (.int i)) : PE sc n ρ (.Constant (.int i) k pos) Ψ :=
  fun _ _ _ _ _ _ _ S _ _ kk => wpAny_Constant_int (kk _ _ _ _ S.F S.N .refl ⟨_, .int _ _, h⟩)
theorem PE.str {x : Str} {k : Nat} {pos : Pos} (h : Ψ (.str x)) : PE sc n ρ (.Constant (.str x) k pos) Ψ :=
  fun _ _ _ _ _ _ _ S _ _ kk => Constant_str (kk _ _ _ _ S.F S.N .refl ⟨_, .str _ _, h⟩)
theorem PE.none {k : Nat} {pos : Pos} (h : Ψ .none) : PE sc n ρ (.Constant .none k pos) Ψ :=
  fun _ _ _ _ _ _ _ S _ _ kk => Constant_none (kk _ _ _ _ S.F S.N .refl ⟨_, .none, h⟩)
theorem PE.bool {b : Bool} {k : Nat} {pos : Pos} (h : Ψ (.bool b)) : PE sc n ρ (.Constant (.bool b) k pos) Ψ :=
  fun _ _ _ _ _ _ _ S _ _ kk => Constant_bool (kk _ _ _ _ S.F S.N .refl ⟨_, .bool _, h⟩)

noncomputable def nameIs (sc : Scope) (x : Str) (k : NameKind) : Bool := sc.names.lookup x == some k && !(x == ("__debug__" : Str))
theorem nameIs_kind {x : Str} {k : NameKind} (h : nameIs sc x k = true) : sc.names.lookup x = some k := by
  simp only [nameIs, Bool.and_eq_true, beq_iff_eq] at h; exact h.1
theorem nameIs_dbg {x : Str} {k : NameKind} (h : nameIs sc x k = true) : (x == ("__debug__" : Str)) = false := by
  simp only [nameIs, Bool.and_eq_true, Bool.not_eq_true'] at h; exact h.2

theorem PE.name {x : Str} {pos : Pos} {d : Dat} (hn : nameIs sc x .local = true) (hx : ρ.lookup x = some d) (h : Ψ d) : PE sc n ρ (.Name x pos) Ψ := by
  intro c s m own news hc ok S Q E kk
  obtain ⟨v, hv, D⟩ := S.R x d hx
  refine wpAny_Name (wpAny_loadName_local ok.kf ?_ S.F.ns hv ?_) (nameIs_dbg hn)
  · show c.env.scope.names.lookup x = _; rw [hc]; exact nameIs_kind hn
  · exact kk v s.heap s.toks news S.F S.N .refl ⟨d, D, h⟩

/-- a name of the top that holds a plain value -/
theorem PE.glob {x : Str} {pos : Pos} {d : PyData} {e : Dat} (hn : nameIs sc x .globalImplicit = true) (hv : valC x = some d) (he : ∀ h v, Reads h v d [] → ∀ nw, DatIn nw v e) (h : Ψ e) : PE sc n ρ (.Name x pos) Ψ := by
  intro c s m own news hc ok S Q E kk
  obtain ⟨v, hg, hr⟩ := ok.T.const x d (ok.S.const x d hv)
  refine Name_function_global ok.kf ?_ (loadGlobal_global (mg := c.mg) ?_ hg ?_) (nameIs_dbg hn)
  · show c.env.scope.names.lookup x = _; rw [hc]; exact nameIs_kind hn
  · rw [ok.gl]; exact ok.T.g.keeps S.F.keep
  · exact kk v s.heap s.toks news S.F S.N .refl ⟨e, he _ _ (hr s.heap) _, h⟩
theorem reads_int {i : Int} : ∀ h v, Reads h v (.int i) [] → ∀ nw, DatIn nw v (.int i) := fun _ _ h nw => by
  obtain ⟨t, rfl, _⟩ := reads_int_inv h; exact .int _ _
theorem reads_str {x : Str} : ∀ h v, Reads h v (.str x) [] → ∀ nw, DatIn nw v (.str x) := fun _ _ h nw => by
  obtain ⟨t, rfl, _⟩ := reads_str_inv h; exact .str _ _
theorem PE.globI {x : Str} {pos : Pos} {i : Int} (hn : nameIs sc x .globalImplicit = true) (hv : valC x = some (.int i)) (h : Ψ (.int i)) : PE sc n ρ (.Name x pos) Ψ := PE.glob hn hv reads_int h
theorem PE.globS {x : Str} {pos : Pos} {i : Str} (hn : nameIs sc x .globalImplicit = true) (hv : valC x = some (.str i)) (h : Ψ (.str i)) : PE sc n ρ (.Name x pos) Ψ := PE.glob hn hv reads_str h

/-! operations -/
noncomputable def PBin (op : Operator) (a b : Dat) (Ψ : Dat → Prop) : Prop :=
  ∀ (n : Nat) (c : FC) (s : Shared) (m : Str → Option Value) (own news : Led) (u v : Value), c.Ok n → Fr c.h₀ c.L s.heap m → News c.h₀ c.L s.heap (own ++ news) → DatIn news u a → DatIn news v b →
    Den c m own news (binaryOp op u v) (fun nw r => ∃ d, DatIn nw r d ∧ Ψ d) s
noncomputable def PIn (op : Operator) (a b : Dat) (Ψ : Dat → Prop) : Prop :=
  ∀ (n : Nat) (c : FC) (s : Shared) (m : Str → Option Value) (own news : Led) (u v : Value), c.Ok n → Fr c.h₀ c.L s.heap m → News c.h₀ c.L s.heap (own ++ news) → DatIn news u a → DatIn news v b →
    Den c m own news (inplaceOp op u v) (fun nw r => ∃ d, DatIn nw r d ∧ Ψ d) s
noncomputable def PCmp (op : CmpOp) (a b : Dat) (Ψ : Bool → Prop) : Prop :=
  ∀ (n : Nat) (c : FC) (s : Shared) (m : Str → Option Value) (own news : Led) (u v : Value), c.Ok n → Fr c.h₀ c.L s.heap m → News c.h₀ c.L s.heap (own ++ news) → DatIn news u a → DatIn news v b →
    Den c m own news (compareOp op u v) (fun _ r => ∃ b, r = .bool b ∧ Ψ b) s
noncomputable def PTruth (a : Dat) (Ψ : Bool → Prop) : Prop :=
  ∀ (n : Nat) (c : FC) (s : Shared) (m : Str → Option Value) (own news : Led) (u : Value), c.Ok n → Fr c.h₀ c.L s.heap m → News c.h₀ c.L s.heap (own ++ news) → DatIn news u a →
    Den c m own news (truthy u) (fun _ r => Ψ r) s

theorem PE.bin {l r : Expr} {op : Operator} {pos : Pos} (h : PE sc n ρ l fun a => PE sc n ρ r fun b => PBin op a b Ψ) : PE sc n ρ (.BinOp l op r pos) Ψ := by
  intro c s m own news hc ok S Q E kk
  refine wpAny_BinOp (h c s m own news hc ok S _ _ fun u h1 t1 n1 F1 N1 X1 ⟨a, A1, p1⟩ => ?_)
  refine p1 c _ m own n1 hc ok (S.next F1 N1 X1) _ _ fun v h2 t2 n2 F2 N2 X2 ⟨b, B2, p2⟩ => ?_
  refine p2 n c _ m own n2 u v ok F2 N2 (A1.mono X2.sub) B2 _ _ fun r h3 t3 n3 F3 N3 X3 p3 => ?_
  exact kk r h3 t3 n3 F3 N3 ((X1.trans X2).trans X3) p3

theorem PE.neg {e : Expr} {pos : Pos} (h : PE sc n ρ e fun a => ∃ i, a = .int i ∧ Ψ (.int (-i))) : PE sc n ρ (.UnaryOp .USub e pos) Ψ := by
  intro c s m own news hc ok S Q E kk
  refine UnaryOp_ (h c s m own news hc ok S _ _ fun u h1 t1 n1 F1 N1 X1 ⟨a, A1, i, ea, p1⟩ => ?_)
  subst ea
  cases A1
  exact P.neg_int (kk _ _ _ _ F1 N1 X1 ⟨_, .int _ _, p1⟩)

theorem PE.cmp {l r : Expr} {op : CmpOp} {pos : Pos} (h : PE sc n ρ l fun a => PE sc n ρ r fun b => PCmp op a b fun t => Ψ (.bool t)) (hm : behindInMarks op r = false) : PE sc n ρ (.Compare l [op] [r] pos) Ψ := by
  intro c s m own news hc ok S Q E kk
  refine wpAny_Compare1 (h c s m own news hc ok S _ _ fun u h1 t1 n1 F1 N1 X1 ⟨a, A1, p1⟩ => ?_) hm
  refine p1 c _ m own n1 hc ok (S.next F1 N1 X1) _ _ fun v h2 t2 n2 F2 N2 X2 ⟨b, B2, p2⟩ => ?_
  refine p2 n c _ m own n2 u v ok F2 N2 (A1.mono X2.sub) B2 _ _ fun r h3 t3 n3 F3 N3 X3 ⟨t, e, p3⟩ => ?_
  subst e
  exact kk _ h3 t3 n3 F3 N3 ((X1.trans X2).trans X3) ⟨_, .bool _, p3⟩

theorem PT.cmp {l r : Expr} {op : CmpOp} {pos : Pos} {Ψ : Bool → Prop} (h : PE sc n ρ l fun a => PE sc n ρ r fun b => PCmp op a b Ψ) (hm : behindInMarks op r = false) : PT sc n ρ (.Compare l [op] [r] pos) Ψ := by
  intro c s m own news hc ok S Q E kk
  refine wpAny_isTrue_Compare1 (h c s m own news hc ok S _ _ fun u h1 t1 n1 F1 N1 X1 ⟨a, A1, p1⟩ => ?_) hm
  refine p1 c _ m own n1 hc ok (S.next F1 N1 X1) _ _ fun v h2 t2 n2 F2 N2 X2 ⟨b, B2, p2⟩ => ?_
  refine p2 n c _ m own n2 u v ok F2 N2 (A1.mono X2.sub) B2 _ _ fun r h3 t3 n3 F3 N3 X3 ⟨t, e, p3⟩ => ?_
  subst e
  exact wpAny_truthy_bool (kk _ h3 t3 n3 F3 N3 ((X1.trans X2).trans X3) p3)

/-- a chain of two -/
theorem PT.cmp2 {l r r2 : Expr} {op op2 : CmpOp} {pos : Pos} {Ψ : Bool → Prop}
    (h : PE sc n ρ l fun a => PE sc n ρ r fun b => PCmp op a b fun t => if t = true then PE sc n ρ r2 (fun d => PCmp op2 b d Ψ) else Ψ false)
    (hm : lastMarks [op, op2] [r, r2] = false) : PT sc n ρ (.Compare l [op, op2] [r, r2] pos) Ψ := by
  intro c s m own news hc ok S Q E kk
  refine isTrue_chain (h c s m own news hc ok S _ _ fun u h1 t1 n1 F1 N1 X1 ⟨a, A1, p1⟩ => ?_) hm
  refine test_link (p1 c _ m own n1 hc ok (S.next F1 N1 X1) _ _ fun v h2 t2 n2 F2 N2 X2 ⟨b, B2, p2⟩ => ?_)
  refine p2 n c _ m own n2 u v ok F2 N2 (A1.mono X2.sub) B2 _ _ fun r h3 t3 n3 F3 N3 X3 ⟨t, e, p3⟩ => ?_
  subst e
  refine wpAny_truthy_bool ?_
  cases t with
  | false => exact kk _ h3 t3 n3 F3 N3 ((X1.trans X2).trans X3) (by simpa using p3)
  | true =>
    rw [if_pos rfl] at p3
    refine test_last (p3 c _ m own n3 hc ok ((((S.next F1 N1 X1)).next F2 N2 X2).next F3 N3 X3) _ _ fun d h4 t4 n4 F4 N4 X4 ⟨w, D4, p4⟩ => ?_)
    refine p4 n c _ m own n4 v d ok F4 N4 (B2.mono fun p hp => X4.sub p (X3.sub p hp)) D4 _ _ fun r h5 t5 n5 F5 N5 X5 ⟨t, e, p5⟩ => ?_
    subst e
    exact wpAny_truthy_bool (kk _ h5 t5 n5 F5 N5 ((((X1.trans X2).trans X3).trans X4).trans X5) p5)

theorem PT.not {e : Expr} {pos : Pos} {Ψ : Bool → Prop} (h : PT sc n ρ e fun b => Ψ (!b)) : PT sc n ρ (.UnaryOp .Not e pos) Ψ := by
  intro c s m own news hc ok S Q E kk
  exact isTrue_not (h c s m own news hc ok S _ _ fun b h1 t1 n1 F1 N1 X1 p1 => kk _ _ _ _ F1 N1 X1 p1)

theorem PT.and_nil {pos : Pos} {Ψ : Bool → Prop} (h : Ψ true) : PT sc n ρ (.BoolOp .And [] pos) Ψ :=
  fun _ _ _ _ _ _ _ S _ _ kk => isTrue_and_nil (kk _ _ _ _ S.F S.N .refl h)
theorem PT.or_nil {pos : Pos} {Ψ : Bool → Prop} (h : Ψ false) : PT sc n ρ (.BoolOp .Or [] pos) Ψ :=
  fun _ _ _ _ _ _ _ S _ _ kk => isTrue_or_nil (kk _ _ _ _ S.F S.N .refl h)
theorem isTrue_BoolOp_whole {op : BoolOp} {es : List Expr} {pos : Pos} {env : Env} {w w' : Sem Value} : isTrue (.BoolOp op es pos) env w = isTrue (.BoolOp op es pos) env w' := rfl
theorem PT.and {x : Expr} {rest : List Expr} {pos : Pos} {Ψ : Bool → Prop} (h : PT sc n ρ x fun b => if b = true then PT sc n ρ (.BoolOp .And rest pos) Ψ else Ψ false) : PT sc n ρ (.BoolOp .And (x :: rest) pos) Ψ := by
  intro c s m own news hc ok S Q E kk
  refine isTrue_and (h c s m own news hc ok S _ _ fun b h1 t1 n1 F1 N1 X1 p1 => ?_)
  cases b with
  | false => exact kk _ _ _ _ F1 N1 X1 (by simpa using p1)
  | true =>
    simp only [↓reduceIte] at p1 ⊢
    exact p1 c _ m own n1 hc ok (S.next F1 N1 X1) _ _ fun b h2 t2 n2 F2 N2 X2 p2 => kk _ _ _ _ F2 N2 (X1.trans X2) p2
theorem PT.or {x : Expr} {rest : List Expr} {pos : Pos} {Ψ : Bool → Prop} (h : PT sc n ρ x fun b => if b = true then Ψ true else PT sc n ρ (.BoolOp .Or rest pos) Ψ) : PT sc n ρ (.BoolOp .Or (x :: rest) pos) Ψ := by
  intro c s m own news hc ok S Q E kk
  refine isTrue_or (h c s m own news hc ok S _ _ fun b h1 t1 n1 F1 N1 X1 p1 => ?_)
  cases b with
  | true => exact kk _ _ _ _ F1 N1 X1 (by simpa using p1)
  | false =>
    simp only [Bool.false_eq_true, ↓reduceIte] at p1 ⊢
    exact p1 c _ m own n1 hc ok (S.next F1 N1 X1) _ _ fun b h2 t2 n2 F2 N2 X2 p2 => kk _ _ _ _ F2 N2 (X1.trans X2) p2

/-- the tests that are no test's own form -/
noncomputable def plainTest : Expr → Bool
  | .UnaryOp .Not _ _ | .BoolOp .. | .IfExp .. | .Compare .. => false
  | _ => true
theorem PT.plain {e : Expr} {Ψ : Bool → Prop} (h : PE sc n ρ e fun a => PTruth a Ψ) (he : plainTest e = true) : PT sc n ρ e Ψ := by
  intro c s m own news hc ok S Q E kk
  refine isTrue_plain (h c s m own news hc ok S _ _ fun u h1 t1 n1 F1 N1 X1 ⟨a, A1, p1⟩ => ?_) ?_
  · exact p1 n c _ m own n1 u ok F1 N1 A1 _ _ fun b h2 t2 n2 F2 N2 X2 p2 => kk _ _ _ _ F2 N2 (X1.trans X2) p2
  · cases e with
    | UnaryOp op _ _ => cases op <;> first | rfl | cases he
    | BoolOp => cases he
    | IfExp => cases he
    | Compare => cases he
    | _ => rfl

theorem PE.ifexp {t b o : Expr} {pos : Pos} (h : PT sc n ρ t fun x => if x = true then PE sc n ρ b Ψ else PE sc n ρ o Ψ) : PE sc n ρ (.IfExp t b o pos) Ψ := by
  intro c s m own news hc ok S Q E kk
  refine IfExp_ (h c s m own news hc ok S _ _ fun x h1 t1 n1 F1 N1 X1 p1 => ?_)
  cases x with
  | true => simp only [↓reduceIte] at p1 ⊢; exact p1 c _ m own n1 hc ok (S.next F1 N1 X1) _ _ fun b h2 t2 n2 F2 N2 X2 p2 => kk _ _ _ _ F2 N2 (X1.trans X2) p2
  | false => simp only [Bool.false_eq_true, ↓reduceIte] at p1 ⊢; exact p1 c _ m own n1 hc ok (S.next F1 N1 X1) _ _ fun b h2 t2 n2 F2 N2 X2 p2 => kk _ _ _ _ F2 N2 (X1.trans X2) p2

/-- and, or as values: the parts are bools -/
theorem PE.and1 {e : Expr} {op : BoolOp} {pos : Pos} (h : PE sc n ρ e Ψ) : PE sc n ρ (.BoolOp op [e] pos) Ψ :=
  fun c s m own news hc ok S Q E kk => BoolOp_one (h c s m own news hc ok S Q E kk)
theorem PE.and {x y : Expr} {rest : List Expr} {pos : Pos} (h : PE sc n ρ x fun a => ∃ t, a = .bool t ∧ if t = true then PE sc n ρ (.BoolOp .And (y :: rest) pos) Ψ else Ψ (.bool false)) : PE sc n ρ (.BoolOp .And (x :: y :: rest) pos) Ψ := by
  intro c s m own news hc ok S Q E kk
  refine BoolOp_and (h c s m own news hc ok S _ _ fun u h1 t1 n1 F1 N1 X1 ⟨a, A1, t, ea, p1⟩ => ?_)
  subst ea
  cases A1
  refine wpAny_truthy_bool ?_
  cases t with
  | false => exact kk _ _ _ _ F1 N1 X1 ⟨_, .bool _, by simpa using p1⟩
  | true =>
    simp only [↓reduceIte] at p1 ⊢
    exact p1 c _ m own n1 hc ok (S.next F1 N1 X1) _ _ fun b h2 t2 n2 F2 N2 X2 p2 => kk _ _ _ _ F2 N2 (X1.trans X2) p2
theorem PE.or {x y : Expr} {rest : List Expr} {pos : Pos} (h : PE sc n ρ x fun a => ∃ t, a = .bool t ∧ if t = true then Ψ (.bool true) else PE sc n ρ (.BoolOp .Or (y :: rest) pos) Ψ) : PE sc n ρ (.BoolOp .Or (x :: y :: rest) pos) Ψ := by
  intro c s m own news hc ok S Q E kk
  refine BoolOp_or (h c s m own news hc ok S _ _ fun u h1 t1 n1 F1 N1 X1 ⟨a, A1, t, ea, p1⟩ => ?_)
  subst ea
  cases A1
  refine wpAny_truthy_bool ?_
  cases t with
  | true => exact kk _ _ _ _ F1 N1 X1 ⟨_, .bool _, by simpa using p1⟩
  | false =>
    simp only [Bool.false_eq_true, ↓reduceIte] at p1 ⊢
    exact p1 c _ m own n1 hc ok (S.next F1 N1 X1) _ _ fun b h2 t2 n2 F2 N2 X2 p2 => kk _ _ _ _ F2 N2 (X1.trans X2) p2

/-! lists of expressions -/
noncomputable def noStar : Expr → Bool
  | .Starred .. => false
  | _ => true
theorem PEs.nil {Ψ : List Dat → Prop} (h : Ψ []) : PEs sc n ρ [] Ψ :=
  fun _ _ _ _ _ _ _ _ S _ _ kk => spliced_none (kk _ _ _ _ S.F S.N .refl ⟨_, .nil, rfl, h⟩)
theorem PEs.cons {e : Expr} {es : List Expr} {Ψ : List Dat → Prop} (h : PE sc n ρ e fun a => PEs sc n ρ es fun ds => Ψ (a :: ds)) (he : noStar e = true) : PEs sc n ρ (e :: es) Ψ := by
  intro pos c s m own news hc ok S Q E kk
  refine spliced_more (h c s m own news hc ok S _ _ fun u h1 t1 n1 F1 N1 X1 ⟨a, A1, p1⟩ => ?_) ?_
  · exact p1 pos c _ m own n1 hc ok (S.next F1 N1 X1) _ _ fun vs h2 t2 n2 F2 N2 X2 ⟨ds, D2, l2, p2⟩ => kk _ _ _ _ F2 N2 (X1.trans X2) ⟨_, .cons (A1.mono X2.sub) D2, by simp [l2], p2⟩
  · cases e <;> first | rfl | cases he

theorem Ext.new {own news : Led} {h : Heap} {h₀ : Heap} {L : Addr} {o : Obj} (N : News h₀ L h (own ++ news)) : Ext own news ((h.objs.size, o) :: news) :=
  .cons fun q hq => Nat.ne_of_lt (Heap.lt_size (N q (List.mem_append_left _ hq)).1)
theorem News_swap {h₀ h : Heap} {L : Addr} {own news : Led} {p : Addr × Obj} (N : News h₀ L h (p :: (own ++ news))) : News h₀ L h (own ++ (p :: news)) := by
  intro q hq
  refine N q ?_
  simp only [List.mem_append, List.mem_cons] at hq ⊢
  rcases hq with h | h | h <;> simp [h]

theorem DatAll.len {nw : Led} {vs : List Value} {ds : List Dat} (h : DatAll nw vs ds) : vs.length = ds.length := h.length

theorem PE.tuple {es : List Expr} {k : Nat} {pos : Pos} (hl : Nat.ble es.length 1000 = true) (h : PEs sc n ρ es fun ds => Ψ (.tuple ds)) : PE sc n ρ (.Tuple es k pos) Ψ := by
  intro c s m own news hc ok S Q E kk
  refine Tuple_ (h pos c s m own news hc ok S _ _ fun vs h1 t1 n1 F1 N1 X1 ⟨ds, D1, l1, p1⟩ => ?_)
  refine newTuple_N F1 N1 (fun h' F' N' => ?_) (by rw [D1.length, l1]; exact Nat.le_trans (Nat.le_of_ble_eq_true hl) (by decide))
  exact kk _ h' t1 ((h1.objs.size, _) :: n1) F' (News_swap N') (X1.trans (Ext.new N1)) ⟨_, .tuple (.head _) (D1.mono fun p hp => .tail _ hp), p1⟩
theorem PE.list {es : List Expr} {pos : Pos} (hl : Nat.ble es.length 1000 = true) (h : PEs sc n ρ es fun ds => Ψ (.list ds)) : PE sc n ρ (.List es pos) Ψ := by
  intro c s m own news hc ok S Q E kk
  refine List_ (h pos c s m own news hc ok S _ _ fun vs h1 t1 n1 F1 N1 X1 ⟨ds, D1, l1, p1⟩ => ?_)
  refine newList_N F1 N1 (fun h' F' N' => ?_) (by rw [D1.length, l1]; exact Nat.le_trans (Nat.le_of_ble_eq_true hl) (by decide))
  exact kk _ h' t1 ((h1.objs.size, _) :: n1) F' (News_swap N') (X1.trans (Ext.new N1)) ⟨_, .list (.head _) (D1.mono fun p hp => .tail _ hp), p1⟩
end
/-- a text by its signs -/
noncomputable def tx (l : List Nat) : Str := ⟨l.toArray⟩
theorem tx_append (a b : List Nat) : tx a ++ tx b = tx (a ++ b) := by
  show Str.mk (a.toArray ++ b.toArray) = _; simp [tx]
theorem tx_length (a : List Nat) : (tx a).length = a.length := by simp [tx, Str.length]
theorem tx_inj {a b : List Nat} : tx a = tx b ↔ a = b := by simp [tx]
theorem tx_beq (a b : List Nat) : (tx a == tx b) = (a == b) := by
  by_cases h : a = b
  · subst h; simp
  · have : tx a ≠ tx b := fun e => h (tx_inj.mp e)
    rw [beq_eq_false_iff_ne.mpr h, beq_eq_false_iff_ne.mpr this]
theorem tx_cps (a : List Nat) : (tx a).cps.toList = a := by simp [tx]
theorem tx_self (x : Str) : x = tx x.cps.toList := by cases x; simp [tx]
/-- a literal's signs -/
noncomputable def lt (s : String) : List Nat := (Str.ofString s).cps.toList
theorem lt_tx (s : String) : Str.ofString s = tx (lt s) := tx_self _

noncomputable abbrev DS (l : List Nat) : Dat := .str (tx l)
noncomputable abbrev DI (i : Int) : Dat := .int i

section
variable {sc : Scope} {n : Nat} {ρ : Rho} {Ψ : Dat → Prop} {Φ : Bool → Prop} {x y : Int} {a b : List Nat}
theorem PE.lit {s : String} {k : Nat} {pos : Pos} (h : Ψ (DS (lt s))) : PE sc n ρ (.Constant (.str (Str.ofString s)) k pos) Ψ := PE.str (by rw [lt_tx]; exact h)

theorem PBin.add (h : Ψ (.int (x + y))) : PBin .Add (.int x) (.int y) Ψ := by
  intro n c s m own news u v ok F N A B Q E kk; cases A; cases B
  exact P.add_int (kk _ _ _ _ F N .refl ⟨_, .int _ _, h⟩)
theorem PBin.sub (h : Ψ (.int (x - y))) : PBin .Sub (.int x) (.int y) Ψ := by
  intro n c s m own news u v ok F N A B Q E kk; cases A; cases B
  exact P.sub_int (kk _ _ _ _ F N .refl ⟨_, .int _ _, h⟩)
theorem PBin.mul (hm : IntMulOk x y) (h : Ψ (.int (x * y))) : PBin .Mult (.int x) (.int y) Ψ := by
  intro n c s m own news u v ok F N A B Q E kk; cases A; cases B
  exact P.mul_int (kk _ _ _ _ F N .refl ⟨_, .int _ _, h⟩) hm
theorem PBin.fdiv (hy : y ≠ 0) (hp : Builtin.divisionGoesByPylong x y = false) (h : Ψ (.int (x.fdiv y))) : PBin .FloorDiv (.int x) (.int y) Ψ := by
  intro n c s m own news u v ok F N A B Q E kk; cases A; cases B
  exact floordiv_int hy (kk _ _ _ _ F N .refl ⟨_, .int _ _, h⟩) (.inl hp)
theorem PBin.mod (hy : y ≠ 0) (h : Ψ (.int (x.fmod y))) : PBin .Mod (.int x) (.int y) Ψ := by
  intro n c s m own news u v ok F N A B Q E kk; cases A; cases B
  exact mod_int' hy (kk _ _ _ _ F N .refl ⟨_, .int _ _, h⟩)
theorem PBin.pow (hy : 0 ≤ y) (hs : (Builtin.Int.intBits x : Int) * y ≤ 2 ^ 27) (h : Ψ (.int (x ^ y.toNat))) : PBin .Pow (.int x) (.int y) Ψ := by
  intro n c s m own news u v ok F N A B Q E kk; cases A; cases B
  exact pow_int hy hs (kk _ _ _ _ F N .refl ⟨_, .int _ _, h⟩)
theorem PBin.shl (hy : 0 ≤ y) (hs : (Builtin.Int.intBits x : Int) + y ≤ 2 ^ 27) (h : Ψ (.int (x * 2 ^ y.toNat))) : PBin .LShift (.int x) (.int y) Ψ := by
  intro n c s m own news u v ok F N A B Q E kk; cases A; cases B
  exact lshift_int hy hs (kk _ _ _ _ F N .refl ⟨_, .int _ _, h⟩)
theorem PBin.shr (hy : 0 ≤ y) (h : Ψ (.int (x.fdiv (2 ^ y.toNat)))) : PBin .RShift (.int x) (.int y) Ψ := by
  intro n c s m own news u v ok F N A B Q E kk; cases A; cases B
  exact rshift_int hy (kk _ _ _ _ F N .refl ⟨_, .int _ _, h⟩)
theorem PBin.and (h : Ψ (.int (Builtin.bitAnd x y))) : PBin .BitAnd (.int x) (.int y) Ψ := by
  intro n c s m own news u v ok F N A B Q E kk; cases A; cases B
  exact and_int (kk _ _ _ _ F N .refl ⟨_, .int _ _, h⟩)
theorem PBin.or (h : Ψ (.int (Builtin.bitOr x y))) : PBin .BitOr (.int x) (.int y) Ψ := by
  intro n c s m own news u v ok F N A B Q E kk; cases A; cases B
  exact or_int (kk _ _ _ _ F N .refl ⟨_, .int _ _, h⟩)
theorem PBin.xor (h : Ψ (.int (Builtin.bitXor x y))) : PBin .BitXor (.int x) (.int y) Ψ := by
  intro n c s m own news u v ok F N A B Q E kk; cases A; cases B
  exact xor_int (kk _ _ _ _ F N .refl ⟨_, .int _ _, h⟩)
theorem PBin.cat (hl : a.length + b.length ≤ 16777216) (h : Ψ (DS (a ++ b))) : PBin .Add (DS a) (DS b) Ψ := by
  intro n c s m own news u v ok F N A B Q E kk; cases A; cases B
  exact add_str (fun t' tk => kk _ _ _ _ F N .refl ⟨_, .str _ _, by rw [tx_append]; exact h⟩) (by rw [tx_length, tx_length]; exact hl)

theorem txt_mul (a : List Nat) (y : Int) : Txt.mul (tx a) y = tx (List.replicate y.toNat a).flatten := by
  unfold Txt.mul
  split
  · rename_i h
    have : y.toNat = 0 := by walk_at "ar"
    rw [this]; rfl
  · split
    · rename_i h1 h
      rw [Bool.or_eq_true] at h
      rcases h with h | h
      · have : y = 1 := by simpa using h
        subst this; simp
      · have : a = [] := by simpa [tx_length] using h
        subst this; simp
    · have : ∀ (k : Nat) (acc : Array Nat), (List.replicate k (tx a).cps).foldl (· ++ ·) acc = acc ++ (List.replicate k a).flatten.toArray := by
        intro k
        induction k with
        | zero => intro acc; simp
        | succ k ih => intro acc; rw [List.replicate_succ, List.foldl_cons, ih]; simp [tx, List.replicate_succ]
      rw [this]; simp [tx]
theorem mulOk_tx {a : List Nat} {y : Int} (h1 : y ≤ 100000) (h2 : a.length ≤ 100) (h0 : -100000 ≤ y) : MulOk (tx a) y := by
  refine ⟨?_, ?_, ?_⟩
  · simp; walk_at "ar"
  · intro h3 _
    rw [tx_length]
    have : (100000 : Int) ≤ (2 ^ 63 - 1) / y := by
      rw [Int.le_ediv_iff_mul_le (by walk_at "ar")]
      have : 100000 * y ≤ 100000 * 100000 := Int.mul_le_mul_of_nonneg_left h1 (by decide)
      walk_at "ar"
    walk_at "ar"
  · intro h3 _
    rw [tx_length]
    have : a.length * y.toNat ≤ 100 * 100000 := Nat.mul_le_mul h2 (by walk_at "ar")
    show decide (_ > 2 ^ 24) = false
    exact decide_eq_false (by walk_at "ar")
theorem PBin.rep (h0 : -100000 ≤ y) (h1 : y ≤ 100000) (h2 : a.length ≤ 100) (h : Ψ (DS (List.replicate y.toNat a).flatten)) : PBin .Mult (DS a) (.int y) Ψ := by
  intro n c s m own news u v ok F N A B Q E kk; cases A; cases B
  exact SB.mul (mulOk_tx h1 h2 h0) (fun t' k => kk _ _ _ _ F N .refl ⟨_, .str _ _, by rw [txt_mul]; exact h⟩)

theorem isList_of {h₀ h : Heap} {L : Addr} {own news : Led} {l : Addr} {vs : List Value} {k : Nat} (N : News h₀ L h (own ++ news)) (hm : (l, listOf vs.toArray k) ∈ news) : h.IsList l vs.toArray :=
  ⟨_, N.get (List.mem_append_right _ hm), rfl, _, rfl⟩
theorem isTup_of {h₀ h : Heap} {L : Addr} {own news : Led} {l : Addr} {vs : List Value} {k : Nat} (N : News h₀ L h (own ++ news)) (hm : (l, ({ cls := .type "tuple", data := .seq vs.toArray k } : Obj)) ∈ news) : IsTup h l vs.toArray :=
  ⟨_, N.get (List.mem_append_right _ hm), rfl, _, rfl⟩
theorem PBin.catL {as bs : List Dat} (hl : as.length + bs.length ≤ 10000) (h : Ψ (.list (as ++ bs))) : PBin .Add (.list as) (.list bs) Ψ := by
  intro n c s m own news u v ok F N A B Q E kk
  cases A with
  | list ma Da =>
    cases B with
    | list mb Db =>
      rename_i l vs kk1 l2 vs2 kk2
      refine add_arrays F N (isList_of N ma) (isList_of N mb) (fun h' F' N' => ?_) ?_
      · refine kk _ h' s.toks ((s.heap.objs.size, _) :: news) F' (News_swap N') (Ext.new N) ⟨_, .list (vs := vs ++ vs2) (n := 0) ?_ ((Da.append Db).mono fun p hp => .tail _ hp), h⟩
        simp [W.listOf]
      · simp only [List.size_toArray]
        rw [Da.length, Db.length]
        exact Nat.le_trans hl (by decide)

theorem PIn.add (h : Ψ (.int (x + y))) : PIn .Add (.int x) (.int y) Ψ := by
  intro n c s m own news u v ok F N A B Q E kk; cases A; cases B
  exact P.iadd_int (kk _ _ _ _ F N .refl ⟨_, .int _ _, h⟩)
theorem PIn.sub (h : Ψ (.int (x - y))) : PIn .Sub (.int x) (.int y) Ψ := by
  intro n c s m own news u v ok F N A B Q E kk; cases A; cases B
  exact P.isub_int (kk _ _ _ _ F N .refl ⟨_, .int _ _, h⟩)

theorem PCmp.eqI (h : Φ (x == y)) : PCmp .Eq (.int x) (.int y) Φ := by
  intro n c s m own news u v ok F N A B Q E kk; cases A; cases B
  exact P.eq_int (kk _ _ _ _ F N .refl ⟨_, rfl, h⟩)
theorem PCmp.neI (h : Φ (x != y)) : PCmp .NotEq (.int x) (.int y) Φ := by
  intro n c s m own news u v ok F N A B Q E kk; cases A; cases B
  exact P.ne_int (kk _ _ _ _ F N .refl ⟨_, rfl, h⟩)
theorem PCmp.ltI (h : Φ (decide (x < y))) : PCmp .Lt (.int x) (.int y) Φ := by
  intro n c s m own news u v ok F N A B Q E kk; cases A; cases B
  exact P.lt_int (kk _ _ _ _ F N .refl ⟨_, rfl, h⟩)
theorem PCmp.leI (h : Φ (decide (x ≤ y))) : PCmp .LtE (.int x) (.int y) Φ := by
  intro n c s m own news u v ok F N A B Q E kk; cases A; cases B
  exact P.le_int (kk _ _ _ _ F N .refl ⟨_, rfl, h⟩)
theorem PCmp.gtI (h : Φ (decide (y < x))) : PCmp .Gt (.int x) (.int y) Φ := by
  intro n c s m own news u v ok F N A B Q E kk; cases A; cases B
  exact P.gt_int (kk _ _ _ _ F N .refl ⟨_, rfl, h⟩)
theorem PCmp.geI (h : Φ (decide (y ≤ x))) : PCmp .GtE (.int x) (.int y) Φ := by
  intro n c s m own news u v ok F N A B Q E kk; cases A; cases B
  exact P.ge_int (kk _ _ _ _ F N .refl ⟨_, rfl, h⟩)
theorem PCmp.eqS (h : Φ (a == b)) : PCmp .Eq (DS a) (DS b) Φ := by
  intro n c s m own news u v ok F N A B Q E kk; cases A; cases B
  exact eq_str (kk _ _ _ _ F N .refl ⟨_, rfl, by rw [tx_beq]; exact h⟩)
theorem PCmp.neS (h : Φ (a != b)) : PCmp .NotEq (DS a) (DS b) Φ := by
  intro n c s m own news u v ok F N A B Q E kk; cases A; cases B
  exact ne_str (kk _ _ _ _ F N .refl ⟨_, rfl, by
    have : (tx a != tx b) = (a != b) := by simp only [bne, tx_beq]
    rw [this]; exact h⟩)
theorem PCmp.leS (h : Φ (!decide (b < a))) : PCmp .LtE (DS a) (DS b) Φ := by
  intro n c s m own news u v ok F N A B Q E kk; cases A; cases B
  exact P.le_str (kk _ _ _ _ F N .refl ⟨_, rfl, by simpa [tx_cps] using h⟩)
theorem PCmp.inS (h : Φ (Txt.contains (tx b) (tx a))) : PCmp .In (DS a) (DS b) Φ := by
  intro n c s m own news u v ok F N A B Q E kk; cases A; cases B
  exact SB.contains (kk _ _ _ _ F N .refl ⟨_, rfl, h⟩)
theorem PCmp.notInS (h : Φ (!Txt.contains (tx b) (tx a))) : PCmp .NotIn (DS a) (DS b) Φ := by
  intro n c s m own news u v ok F N A B Q E kk; cases A; cases B
  exact SB.notContains (kk _ _ _ _ F N .refl ⟨_, rfl, h⟩)
end
noncomputable def PCall (f : Value) (ds : List Dat) (Ψ : Dat → Prop) : Prop :=
  ∀ (n : Nat) (c : FC) (s : Shared) (m : Str → Option Value) (own news : Led) (vs : List Value), c.Ok n → Fr c.h₀ c.L s.heap m → News c.h₀ c.L s.heap (own ++ news) → DatAll news vs ds →
    Den c m own news (call f vs) (fun nw r => ∃ d, DatIn nw r d ∧ Ψ d) s

section
variable {sc : Scope} {n : Nat} {ρ : Rho} {Ψ : Dat → Prop} {Φ : Bool → Prop} {x y : Int} {a b : List Nat}

theorem starEach_noStar : ∀ {es : List Expr} {env : Env}, es.all noStar = true → (starEach es env).any (·.1) = false
  | [], _, _ => rfl
  | e :: es, env, h => by
    rw [List.all_cons, Bool.and_eq_true] at h
    have : starEach (e :: es) env = (false, eval e env) :: starEach es env := by
      cases e <;> first | rfl | (simp [noStar] at h)
    rw [this, List.any_cons, starEach_noStar h.2]; rfl
theorem backTo_any {pos : Pos} {l : List (Bool × Sem Value)} : (backTo pos l).any (·.1) = l.any (·.1) := by
  unfold backTo; rw [List.any_map]; rfl

theorem starEach_cons {e : Expr} {es : List Expr} {env : Env} (he : noStar e = true) : starEach (e :: es) env = (false, eval e env) :: starEach es env := by
  cases e <;> first | rfl | cases he

theorem loadB {c : FC} {s : Shared} {m : Str → Option Value} {x : Str} {v : Value} {Q : Value → Shared → Prop} {E : Value → Shared → Prop} (ok : c.Ok n) (F : Fr c.h₀ c.L s.heap m) (hx : x ∈ builtinNames) (hb : bootBuiltins x = some v)
    (h : Q v s) : wpAny c.M c.A (loadGlobal c.env x) Q E s := by
  refine loadGlobal_builtin (mg := c.mg) (mb := c.mb) (v := v) ?_ (ok.S.free x hx) ?_ ?_ h
  · rw [ok.gl]; exact ok.T.g.keeps F.keep
  · rw [ok.bl]; exact ok.T.b.keeps F.keep
  · rw [ok.T.builtins x ?_, hb]
    intro e; subst e; revert hx; decide +kernel

theorem PE.callB {x : Str} {id : String} {p pos : Pos} {e : Expr} {es : List Expr} (hn : nameIs sc x .globalImplicit = true) (hx : x ∈ builtinNames) (hb : bootBuiltins x = some (.builtin id)) (hs : (e :: es).all noStar = true)
    (h : PEs sc n ρ (e :: es) fun ds => PCall (.builtin id) ds Ψ) : PE sc n ρ (.Call (.Name x p) (e :: es) [] pos) Ψ := by
  intro c s m own news hc ok S Q E kk
  refine Call_ (Name_function_global ok.kf (by show c.env.scope.names.lookup x = _; rw [hc]; exact nameIs_kind hn) (loadB ok S.F hx hb ?_) (nameIs_dbg hn))
  refine callWith_builtin1 ?_ (starEach_cons ?_) ?_
  · refine h pos c s m own news hc ok S _ _ fun vs h1 t1 n1 F1 N1 X1 ⟨ds, D1, _, p1⟩ => ?_
    exact p1 n c _ m own n1 vs ok F1 N1 D1 _ _ fun r h2 t2 n2 F2 N2 X2 p2 => kk r h2 t2 n2 F2 N2 (X1.trans X2) p2
  · rw [List.all_cons, Bool.and_eq_true] at hs; exact hs.1
  · rw [List.all_cons, Bool.and_eq_true] at hs; rw [backTo_any]; exact starEach_noStar hs.2

theorem PE.callT {x : Str} {id : String} {p pos : Pos} {e : Expr} {es : List Expr} (hn : nameIs sc x .globalImplicit = true) (hx : x ∈ builtinNames) (hb : bootBuiltins x = some (.type id)) (hs : (e :: es).all noStar = true)
    (h : PEs sc n ρ (e :: es) fun ds => PCall (.type id) ds Ψ) : PE sc n ρ (.Call (.Name x p) (e :: es) [] pos) Ψ := by
  intro c s m own news hc ok S Q E kk
  refine Call_ (Name_function_global ok.kf (by show c.env.scope.names.lookup x = _; rw [hc]; exact nameIs_kind hn) (loadB ok S.F hx hb ?_) (nameIs_dbg hn))
  refine Pv.callWith_type1 ?_ (starEach_cons ?_) ?_
  · refine h pos c s m own news hc ok S _ _ fun vs h1 t1 n1 F1 N1 X1 ⟨ds, D1, _, p1⟩ => ?_
    exact p1 n c _ m own n1 vs ok F1 N1 D1 _ _ fun r h2 t2 n2 F2 N2 X2 p2 => kk r h2 t2 n2 F2 N2 (X1.trans X2) p2
  · rw [List.all_cons, Bool.and_eq_true] at hs; exact hs.1
  · rw [List.all_cons, Bool.and_eq_true] at hs; rw [backTo_any]; exact starEach_noStar hs.2

/-! the built-ins -/
theorem PCall.len (hl : a.length ≤ 16777216) (h : Ψ (.int a.length)) : PCall (.builtin "len") [DS a] Ψ := by
  intro n c s m own news vs ok F N D Q E kk
  cases D with
  | cons A D => cases D; cases A; exact len_str (by rw [tx_length]; walk_at "ar") (kk _ _ _ _ F N .refl ⟨_, .int _ _, by rw [tx_length]; exact h⟩)
theorem PCall.abs (h : Ψ (.int (if x < 0 then -x else x))) : PCall (.builtin "abs") [.int x] Ψ := by
  intro n c s m own news vs ok F N D Q E kk
  cases D with
  | cons A D => cases D; cases A; exact call_abs_int fun _ _ => kk _ _ _ _ F N .refl ⟨_, .int _ _, h⟩
theorem PCall.ord (hl : a.length = 1) (h : Ψ (.int (a.headD 0 : Nat))) : PCall (.builtin "ord") [DS a] Ψ := by
  intro n c s m own news vs ok F N D Q E kk
  cases D with
  | cons A D =>
    cases D; cases A
    refine ord_of_one (by rw [tx_length]; exact hl) (kk _ _ _ _ F N .refl ⟨_, .int _ _, ?_⟩)
    have : (tx a).cps.getD 0 0 = a.headD 0 := by cases a <;> simp [tx]
    rw [this]; exact h
theorem PCall.chr (h0 : 0 ≤ x) (h1 : x ≤ 1114111) (h : Ψ (DS [x.toNat])) : PCall (.builtin "chr") [.int x] Ψ := by
  intro n c s m own news vs ok F N D Q E kk
  cases D with
  | cons A D => cases D; cases A; exact chr_of_range h0 h1 (kk _ _ _ _ F N .refl ⟨_, .str _ _, h⟩)
theorem PCall.max (h : Ψ (.int (if y > x then y else x))) : PCall (.builtin "max") [.int x, .int y] Ψ := by
  intro n c s m own news vs ok F N D Q E kk
  cases D with
  | cons A D =>
    cases D with
    | cons B D => cases D; cases A; cases B; exact max_two_N ok.hh F N fun h' tk F' N' => kk _ _ _ _ F' N' .refl ⟨_, .int _ _, h⟩
theorem PCall.min (h : Ψ (.int (if y < x then y else x))) : PCall (.builtin "min") [.int x, .int y] Ψ := by
  intro n c s m own news vs ok F N D Q E kk
  cases D with
  | cons A D =>
    cases D with
    | cons B D => cases D; cases A; cases B; exact min_two_N ok.hh F N fun h' tk F' N' => kk _ _ _ _ F' N' .refl ⟨_, .int _ _, h⟩
/-- the figures of a whole number -/
noncomputable def dec (i : Int) : List Nat := (Str.ofString (toString i)).cps.toList
theorem dec_tx (i : Int) : Str.ofString (toString i) = tx (dec i) := tx_self _
theorem PCall.strI (hl : x.natAbs.log2 < 1920) (h : Ψ (DS (dec x))) : PCall (.type "str") [.int x] Ψ := by
  intro n c s m own news vs ok F N D Q E kk
  cases D with
  | cons A D => cases D; cases A; exact P.str_of_int hl (kk _ _ _ _ F N .refl ⟨_, .str _ _, by rw [dec_tx]; exact h⟩)
theorem PCall.reprI (hl : x.natAbs.log2 < 1920) (h : Ψ (DS (dec x))) : PCall (.builtin "repr") [.int x] Ψ := by
  intro n c s m own news vs ok F N D Q E kk
  cases D with
  | cons A D => cases D; cases A; exact P.repr_of_int hl (kk _ _ _ _ F N .refl ⟨_, .str _ _, by rw [dec_tx]; exact h⟩)
theorem PCall.intB {t : Bool} (h : Ψ (.int (if t then 1 else 0))) : PCall (.type "int") [.bool t] Ψ := by
  intro n c s m own news vs ok F N D Q E kk
  cases D with
  | cons A D => cases D; cases A; exact call_int_bool (kk _ _ _ _ F N .refl ⟨_, .int _ _, h⟩)
theorem PCall.intS (hx : PySem.intText? (tx a) = some x) (hl : a.length ≤ 640) (h : Ψ (.int x)) : PCall (.type "int") [DS a] Ψ := by
  intro n c s m own news vs ok F N D Q E kk
  cases D with
  | cons A D => cases D; cases A; exact PySem.W.KIN.call_text hx (by rw [tx_length]; exact hl) (kk _ _ _ _ F N .refl ⟨_, .int _ _, h⟩)

/-! an item, a slice of a text -/
noncomputable def notSlice : Expr → Bool
  | .Slice .. => false
  | _ => true
theorem sub_notSlice {slice : Expr} {o i : Value} (h : notSlice slice = true) : subscripted slice false o i = operate [o, i] (getItem o i) := by
  cases slice <;> first | rfl | cases h
theorem letGo_str {value : Expr} {x : Str} {t : Tok} : ∀ r, letTemporaryGo value (.str x t) r = pure () := by
  intro r; cases value <;> rfl
theorem sub_slice {l u : Option Expr} {p : Pos} {o i : Value} : subscripted (.Slice l u Option.none p) false o i = operate [i, o] (getItem o i) := rfl

/-- l[i:j] for bounds from 0 on -/
noncomputable def cut (l : List Nat) (i j : Nat) : List Nat := (l.take j).drop i
theorem cut_filterMap (l : List Nat) (i k : Nat) (hk : i + k ≤ l.length) : ((List.range k).map fun t => i + t).filterMap (l[·]?) = (l.drop i).take k := by
  induction k generalizing i with
  | zero => simp
  | succ k ih =>
    have hi : i < l.length := by walk_at "ar"
    rw [List.range_succ_eq_map, List.map_cons, List.filterMap_cons, Nat.add_zero, List.getElem?_eq_getElem hi, List.drop_eq_getElem_cons hi, List.take_succ_cons]
    simp only
    congr 1
    have := ih (i + 1) (by walk_at "ar")
    rw [← this, List.map_map]
    congr 1
    apply List.map_congr_left
    intro t _
    simp; walk_at "ar"
theorem sliceRange_one (i j : Nat) : sliceRange (i : Int) (j : Int) 1 = (List.range (j - i)).map fun t => i + t := by
  unfold sliceRange
  simp only [show (1 : Int) > 0 by decide, if_true]
  have e : (if (i : Int) < j then ((j : Int) - i + 1 - 1) / 1 else 0).toNat = j - i := by
    split
    · rw [Int.ediv_one]; walk_at "ar"
    · simp; walk_at "ar"
  rw [e]
  apply List.map_congr_left
  intro t _
  walk_at "ar"
theorem slice_tx (a : List Nat) (i j : Nat) : Txt.slice (tx a) (some i) (some j) = tx (cut a i j) := by
  have key : (Builtin.Str.strSliceIndices (some (i : Int)) (some (j : Int)) 1 a.length).filterMap (a[·]?) = cut a i j := by
    unfold Builtin.Str.strSliceIndices
    simp only [show (1 : Int) > 0 by decide, if_true]
    have e1 : (max 0 (min (if (i : Int) < 0 then (i : Int) + a.length else i) a.length)) = ((min i a.length : Nat) : Int) := by
      rw [if_neg (by walk_at "ar")]; walk_at "ar"
    have e2 : (max 0 (min (if (j : Int) < 0 then (j : Int) + a.length else j) a.length)) = ((min j a.length : Nat) : Int) := by
      rw [if_neg (by walk_at "ar")]; walk_at "ar"
    rw [e1, e2, sliceRange_one]
    by_cases h : min i a.length ≤ min j a.length
    · rw [cut_filterMap _ _ _ (by rw [Nat.add_sub_cancel' h]; exact Nat.min_le_right _ _)]
      unfold cut
      rw [List.drop_take]
      by_cases hi : i ≤ a.length
      · rw [Nat.min_eq_left hi]
        by_cases hj : j ≤ a.length
        · rw [Nat.min_eq_left hj]
        · rw [Nat.min_eq_right (by walk_at "ar"), List.take_of_length_le (by simp), List.take_of_length_le (by simp; walk_at "ar")]
      · rw [List.drop_eq_nil_of_le (by walk_at "ar" : a.length ≤ min i a.length), List.drop_eq_nil_of_le (by walk_at "ar" : a.length ≤ i)]; simp
    · have : min j a.length - min i a.length = 0 := by walk_at "ar"
      rw [this]
      unfold cut
      rw [List.drop_eq_nil_of_le]
      · simp
      · rw [List.length_take]; walk_at "ar"
  unfold Txt.slice
  rw [tx_length]
  split
  · rename_i h
    simp at h
    -- all of it
    have hlen : (cut a i j).length = a.length := by
      rw [← key]
      have : (Builtin.Str.strSliceIndices (some (i : Int)) (some (j : Int)) 1 a.length).filterMap (a[·]?) = (Builtin.Str.strSliceIndices (some (i : Int)) (some (j : Int)) 1 a.length).map fun t => a.getD t 0 := by
        have hb : ∀ t ∈ Builtin.Str.strSliceIndices (some (i : Int)) (some (j : Int)) 1 a.length, t < a.length := by
          intro t ht
          unfold Builtin.Str.strSliceIndices at ht
          simp only [show (1 : Int) > 0 by decide, if_true] at ht
          have e2 : (max 0 (min (if (j : Int) < 0 then (j : Int) + a.length else j) a.length)) = ((min j a.length : Nat) : Int) := by
            rw [if_neg (by walk_at "ar")]; walk_at "ar"
          have e1 : (max 0 (min (if (i : Int) < 0 then (i : Int) + a.length else i) a.length)) = ((min i a.length : Nat) : Int) := by
            rw [if_neg (by walk_at "ar")]; walk_at "ar"
          rw [e1, e2, sliceRange_one] at ht
          simp only [List.mem_map, List.mem_range] at ht
          obtain ⟨q, hq, rfl⟩ := ht
          clear e1 e2
          have := Nat.min_le_right j a.length
          walk_at "ar"
        revert hb
        generalize Builtin.Str.strSliceIndices (some (i : Int)) (some (j : Int)) 1 a.length = L
        intro hb
        induction L with
        | nil => rfl
        | cons t L ih =>
          have ht := hb t (.head _)
          rw [List.filterMap_cons, List.getElem?_eq_getElem ht, List.map_cons, ih fun q hq => hb q (.tail _ hq)]
          simp [ht]
      rw [this, List.length_map]; exact h
    have : cut a i j = a := by
      unfold cut at hlen ⊢
      rw [List.length_drop, List.length_take] at hlen
      by_cases h0 : a.length = 0
      · have : a = [] := List.length_eq_zero_iff.mp h0
        subst this; simp
      · have hi : i = 0 := by walk_at "ar"
        subst hi
        rw [List.drop_zero, List.take_of_length_le (by walk_at "ar")]
    rw [this]
  · have : (tx a).cps = a.toArray := rfl
    simp only [this, List.getElem?_toArray]
    rw [show (fun x => a[x]?) = (a[·]?) from rfl, key]
    rfl
theorem slice_tx_to (a : List Nat) (j : Nat) : Txt.slice (tx a) Option.none (some j) = tx (a.take j) := by
  have := slice_tx a 0 j
  unfold cut at this
  rw [List.drop_zero] at this
  rw [← this]
  unfold Txt.slice Builtin.Str.strSliceIndices
  simp only [show (1 : Int) > 0 by decide, if_true]
  have e1 : (max 0 (min (if ((0 : Nat) : Int) < 0 then ((0 : Nat) : Int) + ((tx a).length : Int) else ((0 : Nat) : Int)) ((tx a).length : Int))) = 0 := by
    rw [if_neg (by walk_at "ar")]; walk_at "ar"
  rw [e1]
theorem slice_tx_from (a : List Nat) (i : Nat) : Txt.slice (tx a) (some i) Option.none = tx (a.drop i) := by
  have := slice_tx a i a.length
  unfold cut at this
  rw [List.take_length] at this
  rw [← this]
  unfold Txt.slice Builtin.Str.strSliceIndices
  simp only [show (1 : Int) > 0 by decide, if_true]
  have e1 : (max 0 (min (if ((a.length : Nat) : Int) < 0 then ((a.length : Nat) : Int) + ((tx a).length : Int) else ((a.length : Nat) : Int)) ((tx a).length : Int))) = ((tx a).length : Int) := by
    rw [tx_length, if_neg (by walk_at "ar")]; walk_at "ar"
  rw [e1]

theorem PE.sliceSS {v l u : Expr} {p pos : Pos} (h : PE sc n ρ v fun d => PE sc n ρ l fun e => PE sc n ρ u fun f => ∃ a x y, d = DS a ∧ e = .int x ∧ f = .int y ∧ 0 ≤ x ∧ 0 ≤ y ∧ a.length ≤ 16777216 ∧ Ψ (DS (cut a x.toNat y.toNat))) :
    PE sc n ρ (.Subscript v (.Slice (some l) (some u) Option.none p) pos) Ψ := by
  intro c s m own news hc ok S Q E kk
  refine Subscript_ (h c s m own news hc ok S _ _ fun w h1 t1 n1 F1 N1 X1 ⟨d, A1, p1⟩ => ?_)
  refine wpAny_Slice (evalPart_some_step (p1 c _ m own n1 hc ok (S.next F1 N1 X1) _ _ fun w2 h2 t2 n2 F2 N2 X2 ⟨e, B2, p2⟩ => ?_))
  refine evalPart_some_step (p2 c _ m own n2 hc ok ((S.next F1 N1 X1).next F2 N2 X2) _ _ fun w3 h3 t3 n3 F3 N3 X3 ⟨f, C3, a, x, y, ed, ee, ef, hx0, hy0, hl, p3⟩ => ?_)
  refine evalPart_none_step ?_
  subst ed; subst ee; subst ef
  cases A1; cases B2; cases C3
  refine slice_strN_ss (s := ⟨_, _, _, _, _⟩) F3 N3 (fun h' t' k F' N' => kk _ h' k n3 F' N' ((X1.trans X2).trans X3) ⟨DS (cut a x.toNat y.toNat), ?_, p3⟩) sub_slice letGo_str (by rw [tx_length]; exact hl)
  obtain ⟨i, rfl⟩ := Int.eq_ofNat_of_zero_le hx0
  obtain ⟨j, rfl⟩ := Int.eq_ofNat_of_zero_le hy0
  rw [slice_tx]; exact .str _ _
theorem PE.sliceNS {v u : Expr} {p pos : Pos} (h : PE sc n ρ v fun d => PE sc n ρ u fun f => ∃ a y, d = DS a ∧ f = .int y ∧ 0 ≤ y ∧ a.length ≤ 16777216 ∧ Ψ (DS (a.take y.toNat))) :
    PE sc n ρ (.Subscript v (.Slice Option.none (some u) Option.none p) pos) Ψ := by
  intro c s m own news hc ok S Q E kk
  refine Subscript_ (h c s m own news hc ok S _ _ fun w h1 t1 n1 F1 N1 X1 ⟨d, A1, p1⟩ => ?_)
  refine wpAny_Slice (evalPart_none_step (evalPart_some_step (p1 c _ m own n1 hc ok (S.next F1 N1 X1) _ _ fun w2 h2 t2 n2 F2 N2 X2 ⟨e, B2, a, y, ed, ee, hy0, hl, p2⟩ => ?_)))
  refine evalPart_none_step ?_
  subst ed; subst ee
  cases A1; cases B2
  refine slice_strN_ns (s := ⟨_, _, _, _, _⟩) F2 N2 (fun h' t' k F' N' => kk _ h' k n2 F' N' (X1.trans X2) ⟨DS (a.take y.toNat), ?_, p2⟩) sub_slice letGo_str (by rw [tx_length]; exact hl)
  obtain ⟨j, rfl⟩ := Int.eq_ofNat_of_zero_le hy0
  rw [slice_tx_to]; exact .str _ _
theorem PE.sliceSN {v u : Expr} {p pos : Pos} (h : PE sc n ρ v fun d => PE sc n ρ u fun f => ∃ a y, d = DS a ∧ f = .int y ∧ 0 ≤ y ∧ a.length ≤ 16777216 ∧ Ψ (DS (a.drop y.toNat))) :
    PE sc n ρ (.Subscript v (.Slice (some u) Option.none Option.none p) pos) Ψ := by
  intro c s m own news hc ok S Q E kk
  refine Subscript_ (h c s m own news hc ok S _ _ fun w h1 t1 n1 F1 N1 X1 ⟨d, A1, p1⟩ => ?_)
  refine wpAny_Slice (evalPart_some_step (p1 c _ m own n1 hc ok (S.next F1 N1 X1) _ _ fun w2 h2 t2 n2 F2 N2 X2 ⟨e, B2, a, y, ed, ee, hy0, hl, p2⟩ => ?_))
  refine evalPart_none_step (evalPart_none_step ?_)
  subst ed; subst ee
  cases A1; cases B2
  refine slice_strN_sn (s := ⟨_, _, _, _, _⟩) F2 N2 (fun h' t' k F' N' => kk _ h' k n2 F' N' (X1.trans X2) ⟨DS (a.drop y.toNat), ?_, p2⟩) sub_slice letGo_str (by rw [tx_length]; exact hl)
  obtain ⟨j, rfl⟩ := Int.eq_ofNat_of_zero_le hy0
  rw [slice_tx_from]; exact .str _ _

end
inductive PF where
  | next | brk | cont
  | ret (d : Dat)
noncomputable def FlowIn (nw : Led) : Flow → PF → Prop
  | .next, .next => True
  | .brk, .brk => True
  | .cont, .cont => True
  | .ret v, .ret d => DatIn nw v d
  | _, _ => False
noncomputable abbrev Om := Option (Str × List Dat)

/-- the state, where one name may hold a list of its own that grows -/
structure StO (c : FC) (ω : Om) (ρ : Rho) (own news : Led) (m : Str → Option Value) (h : Heap) : Prop where
  F : Fr c.h₀ c.L h m
  R : EnvIn news m ρ
  N : match ω with
    | none => News c.h₀ c.L h (own ++ news)
    | some (x, ds) => ∃ a vs k, m x = some (.ref a) ∧ DatAll news vs ds ∧ News c.h₀ c.L h ((a, W.listOf vs.toArray k) :: own ++ news) ∧ (∀ q ∈ own, q.1 < a) ∧ (∀ q ∈ news, q.1 ≠ a)

noncomputable def omNe (ω : Om) (x : Str) : Bool := match ω with
  | none => true
  | some (y, _) => !(y == x)

section
variable {c : FC} {ω : Om} {ρ ρ' : Rho} {own news : Led} {m : Str → Option Value} {s : Shared} {h : Heap} {x : Str} {v : Value} {d : Dat}
/-- an expression's view of it -/
theorem StO.open (S : StO c ω ρ own news m s.heap) : ∃ own', St c ρ own' news m s ∧ (∀ q ∈ own, q ∈ own') ∧
    (∀ h' news', Fr c.h₀ c.L h' m → News c.h₀ c.L h' (own' ++ news') → Ext own' news news' → StO c ω ρ own news' m h' ∧ Ext own news news') := by
  obtain ⟨F, R, N⟩ := S
  cases ω with
  | none => exact ⟨own, ⟨F, N, R⟩, fun _ h => h, fun h' news' F' N' X => ⟨⟨F', R.mono X.sub, N'⟩, X⟩⟩
  | some z =>
    obtain ⟨y, ds⟩ := z
    obtain ⟨a, vs, k, hy, D, N, h1, h2⟩ := N
    refine ⟨(a, W.listOf vs.toArray k) :: own, ⟨F, N, R⟩, fun _ h => .tail _ h, fun h' news' F' N' X => ⟨⟨F', R.mono X.sub, a, vs, k, hy, D.mono X.sub, N', h1, fun q hq => ?_⟩, X.sub, fun p hp => (X.up p hp).imp_right fun h q hq => h q (.tail _ hq)⟩⟩
    rcases X.up q hq with h | h
    · exact h2 q h
    · exact (h _ (.head _)).symm
theorem StO.set {h' : Heap} (S : StO c ω ρ own news m h) (hx : omNe ω x = true) (hv : DatIn news v d) (hn : h'.Ns c.L fun y => if y = x then some v else m y) (hs : Heap.SameBut c.L h h') :
    StO c ω ((x, d) :: ρ) own news (fun y => if y = x then some v else m y) h' := by
  obtain ⟨F, R, N⟩ := S
  refine ⟨F.set hn hs, R.set hv, ?_⟩
  cases ω with
  | none => exact News.set N hs
  | some z =>
    obtain ⟨y, ds⟩ := z
    obtain ⟨a, vs, k, hy, D, N, h1, h2⟩ := N
    have : y ≠ x := by simpa [omNe] using hx
    exact ⟨a, vs, k, by simp [this, hy], D, News.set N hs, h1, h2⟩
theorem StO.sub (S : StO c ω ρ own news m h) (k : ∀ x d, ρ'.lookup x = some d → ρ.lookup x = some d) : StO c ω ρ' own news m h := ⟨S.F, S.R.sub k, S.N⟩
end

noncomputable def PS (sc : Scope) (n : Nat) (ω : Om) (ρ : Rho) (ss : List Stmt) (Φ : PF → Om → Rho → Prop) : Prop :=
  ∀ (c : FC) (s : Shared) (m : Str → Option Value) (own news : Led) (Q : Flow → Shared → Prop) (E : Value → Shared → Prop), c.env.scope = sc → c.Ok n → StO c ω ρ own news m s.heap →
    (∀ fl h' tk' m' news' pf ω' ρ', StO c ω' ρ' own news' m' h' → Ext own news news' → FlowIn news' fl pf → Φ pf ω' ρ' → Q fl { s with heap := h', toks := tk' }) → wpAny c.M c.A (execs ss c.env) Q E s
noncomputable def PS1 (sc : Scope) (n : Nat) (ω : Om) (ρ : Rho) (st : Stmt) (Φ : PF → Om → Rho → Prop) : Prop :=
  ∀ (c : FC) (s : Shared) (m : Str → Option Value) (own news : Led) (Q : Flow → Shared → Prop) (E : Value → Shared → Prop), c.env.scope = sc → c.Ok n → StO c ω ρ own news m s.heap →
    (∀ fl h' tk' m' news' pf ω' ρ', StO c ω' ρ' own news' m' h' → Ext own news news' → FlowIn news' fl pf → Φ pf ω' ρ' → Q fl { s with heap := h', toks := tk' }) → wpAny c.M c.A (exec st c.env) Q E s
noncomputable def PA (sc : Scope) (n : Nat) (ω : Om) (ρ : Rho) (t : Expr) (d : Dat) (K : Rho → Prop) : Prop :=
  ∀ (c : FC) (s : Shared) (m : Str → Option Value) (own news : Led) (v : Value) (Q : Unit → Shared → Prop) (E : Value → Shared → Prop), c.env.scope = sc → c.Ok n → StO c ω ρ own news m s.heap → DatIn news v d →
    (∀ h' tk' m' ρ', StO c ω ρ' own news m' h' → K ρ' → Q () { s with heap := h', toks := tk' }) → wpAny c.M c.A (assign t c.env v) Q E s

section
variable {sc : Scope} {n : Nat} {ω : Om} {ρ ρ' : Rho} {Φ Φ' : PF → Om → Rho → Prop}

theorem PS.mono {ss : List Stmt} (h : PS sc n ω ρ ss Φ) (k : ∀ f w r, Φ f w r → Φ' f w r) : PS sc n ω ρ ss Φ' :=
  fun c s m own news Q E hc ok S kk => h c s m own news Q E hc ok S fun fl h' tk' m' nw pf ω' ρ' S' X f p => kk fl h' tk' m' nw pf ω' ρ' S' X f (k _ _ _ p)
theorem PS1.mono {ss : Stmt} (h : PS1 sc n ω ρ ss Φ) (k : ∀ f w r, Φ f w r → Φ' f w r) : PS1 sc n ω ρ ss Φ' :=
  fun c s m own news Q E hc ok S kk => h c s m own news Q E hc ok S fun fl h' tk' m' nw pf ω' ρ' S' X f p => kk fl h' tk' m' nw pf ω' ρ' S' X f (k _ _ _ p)
theorem PS.sub {ss : List Stmt} (h : PS sc n ω ρ' ss Φ) (k : ∀ x d, ρ'.lookup x = some d → ρ.lookup x = some d) : PS sc n ω ρ ss Φ :=
  fun c s m own news Q E hc ok S kk => h c s m own news Q E hc ok (S.sub k) kk

theorem PS.nil (h : Φ .next ω ρ) : PS sc n ω ρ [] Φ :=
  fun _ s _ _ _ _ _ _ _ S kk => wpAny_execs_nil (kk .next s.heap s.toks _ _ .next ω ρ S .refl trivial h)
theorem PS.cons {st : Stmt} {rest : List Stmt} (h : PS1 sc n ω ρ st fun pf ω' ρ' => match pf with
    | .next => PS sc n ω' ρ' rest Φ
    | f => Φ f ω' ρ') : PS sc n ω ρ (st :: rest) Φ := by
  intro c s m own news Q E hc ok S kk
  refine wpAny_execs_cons (h c s m own news _ _ hc ok S fun fl h' tk' m' nw pf ω' ρ' S' X f p => ?_)
  cases pf with
  | next =>
    cases fl <;> first | exact (f : False).elim | skip
    exact p c _ m' own nw _ _ hc ok S' fun fl2 h2 tk2 m2 nw2 pf2 ω2 ρ2 S2 X2 f2 p2 => kk fl2 h2 tk2 m2 nw2 pf2 ω2 ρ2 S2 (X.trans X2) f2 p2
  | brk => cases fl <;> first | exact (f : False).elim | exact kk .brk h' tk' m' nw .brk ω' ρ' S' X trivial p
  | cont => cases fl <;> first | exact (f : False).elim | exact kk .cont h' tk' m' nw .cont ω' ρ' S' X trivial p
  | ret d => cases fl <;> first | exact (f : False).elim | exact kk _ h' tk' m' nw _ ω' ρ' S' X f p

theorem store_ {c : FC} {s : Shared} {m : Str → Option Value} {own news : Led} {x : Str} {v : Value} {d : Dat} {Q : Unit → Shared → Prop} {E : Value → Shared → Prop} (hc : c.env.scope = sc) (ok : c.Ok n) (S : StO c ω ρ own news m s.heap)
    (hn : nameIs sc x .local = true) (hx : omNe ω x = true) (D : DatIn news v d) (k : ∀ h', StO c ω ((x, d) :: ρ) own news (fun y => if y = x then some v else m y) h' → Q () { s with heap := h', toks := s.toks + 1 }) :
    wpAny c.M c.A (storeName c.env x v) Q E s := by
  refine wpAny_storeName_local (by show c.env.scope.names.lookup x = _; rw [hc]; exact nameIs_kind hn) S.F.ns (fun h' hn hs => k h' (S.set hx D hn hs)) ?_
  rw [ok.kf]; rfl

theorem PA.name {x : Str} {pos : Pos} {d : Dat} {K : Rho → Prop} (hn : nameIs sc x .local = true) (hx : omNe ω x = true) (h : K ((x, d) :: ρ)) : PA sc n ω ρ (.Name x pos) d K :=
  fun _ _ _ _ _ _ _ _ hc ok S D kk => assign_Name (store_ hc ok S hn hx D fun h' S' => kk h' _ _ _ S' h)

/-- the names of a tuple of targets -/
noncomputable def namesOf : List Expr → Option (List Str)
  | [] => some []
  | .Name x _ :: es => (namesOf es).map (x :: ·)
  | _ => none
noncomputable def bindAll : List Str → List Dat → Rho → Rho
  | x :: xs, d :: ds, ρ => bindAll xs ds ((x, d) :: ρ)
  | _, _, ρ => ρ

theorem inOrder {c : FC} {own news : Led} {Q : Unit → Shared → Prop} {E : Value → Shared → Prop} (hc : c.env.scope = sc) (ok : c.Ok n) : ∀ (xs : List Str) (ts : List (Value → Sem Unit)) (vs : List Value) (ds : List Dat) (ρ : Rho) (s : Shared) (m : Str → Option Value),
    (∀ (i : Nat) (x : Str), xs[i]? = some x → ∀ v (Q : Unit → Shared → Prop) (s : Shared), wpAny c.M c.A (storeName c.env x v) Q E s → ∀ t, ts[i]? = some t → wpAny c.M c.A (t v) Q E s) → ts.length = xs.length →
    xs.all (fun x => nameIs sc x .local && omNe ω x) = true → StO c ω ρ own news m s.heap → DatAll news vs ds → xs.length = ds.length →
    (∀ h' tk' m', StO c ω (bindAll xs ds ρ) own news m' h' → Q () { s with heap := h', toks := tk' }) → wpAny c.M c.A (assignInOrder ts vs) Q E s
  | [], ts, vs, ds, ρ, s, m, ht, hl, hx, S, D, hd, kk => by
    have : ds = [] := by simpa using hd.symm
    subst this
    have : ts = [] := by simpa using hl
    subst this
    show wpAny c.M c.A (pure ()) Q E s
    exact wpAny_pure (kk s.heap s.toks m S)
  | x :: xs, ts, vs, ds, ρ, s, m, ht, hl, hx, S, D, hd, kk => by
    cases ts with
    | nil => simp at hl
    | cons t ts =>
      cases D with
      | nil => simp at hd
      | cons A D =>
        rw [List.all_cons, Bool.and_eq_true, Bool.and_eq_true] at hx
        show wpAny c.M c.A (do holding _ (t _); assignInOrder ts _) Q E s
        refine wpAny_bind (wpAny_holding (ht 0 x rfl _ _ _ (store_ hc ok S hx.1.1 hx.1.2 A fun h' S' => ?_) t rfl))
        exact inOrder hc ok xs ts _ _ _ { s with heap := h', toks := s.toks + 1 } _ (fun i y hi v Q s h t' ht' => ht (i + 1) y (by simpa using hi) v Q s h t' (by simpa using ht')) (by simpa using hl) hx.2 S' D (by simpa using hd) fun h2 tk2 m2 S2 => kk h2 tk2 m2 S2

theorem assignEach_names {env : Env} : ∀ {es : List Expr} {xs : List Str}, namesOf es = some xs → ∃ ps : List Pos, (assignEach es env) = (xs.zip ps).map (fun xp => (false, assign (.Name xp.1 xp.2) env)) ∧ ps.length = xs.length
  | [], xs, h => by cases h; exact ⟨[], rfl, rfl⟩
  | e :: es, xs, h => by
    cases e with
    | Name x p =>
      simp only [namesOf, Option.map_eq_some_iff] at h
      obtain ⟨ys, hy, rfl⟩ := h
      obtain ⟨ps, hp, hl⟩ := assignEach_names (env := env) hy
      exact ⟨p :: ps, by rw [show assignEach (.Name x p :: es) env = (false, assign (.Name x p) env) :: assignEach es env from rfl, hp]; rfl, by simp [hl]⟩
    | _ => cases h

theorem PA.tuple {es : List Expr} {k : Nat} {pos : Pos} {ds : List Dat} {K : Rho → Prop} {xs : List Str} (he : namesOf es = some xs) (hx : xs.all (fun x => nameIs sc x .local && omNe ω x) = true) (hl : xs.length = ds.length) (h : K (bindAll xs ds ρ)) :
    PA sc n ω ρ (.Tuple es k pos) (.tuple ds) K := by
  intro c s m own news v Q E hc ok S D kk
  obtain ⟨ps, hp, hpl⟩ := assignEach_names (env := c.env) he
  obtain ⟨own', S', _, back⟩ := S.open
  cases D with
  | tuple hm D =>
    refine unpackN_ S'.F S'.N (isTup_of S'.N hm) ok.hh ?_ ?_ fun h' F' N' => ?_
    · rw [hp]; simp [hpl, D.length, hl]
    · rw [hp]
      rw [List.findIdx?_eq_none_iff]
      intro q hq
      simp only [List.mem_map] at hq
      obtain ⟨_, _, rfl⟩ := hq
      rfl
    · refine inOrder hc ok xs _ _ ds ρ { s with heap := h' } m (fun i x hi v Q s hw t ht => ?_) (by rw [hp]; simp [hpl]) hx (back h' news F' N' .refl).1 (by simpa using D) hl fun h2 tk2 m2 S2 => kk h2 tk2 m2 _ S2 h
      rw [hp] at ht
      simp only [List.map_map, List.getElem?_map] at ht
      obtain ⟨xp, hz, rfl⟩ := Option.map_eq_some_iff.mp ht
      have hxp : xp.1 = x := by
        rw [List.getElem?_zip_eq_some] at hz
        rw [hi] at hz; exact (Option.some.inj hz.1).symm
      show wpAny c.M c.A (assign (.Name xp.1 xp.2) c.env v) Q E s
      rw [hxp]
      exact assign_Name hw

/-! statements -/
noncomputable def isComp : Expr → Bool
  | .ListComp .. | .SetComp .. | .DictComp .. => true
  | _ => false
theorem swaps_plain {value : Expr} {t : Option Expr} {l : Nat} {env : Env} (h : isComp value = false) : swapsWith value t l env = pure false := by
  cases value <;> first | rfl | cases h

theorem PS1.assign {x : Str} {p pos : Pos} {e : Expr} (hn : nameIs sc x .local = true) (hx : omNe ω x = true) (hc : isComp e = false) (h : PE sc n ρ e fun d => Φ .next ω ((x, d) :: ρ)) : PS1 sc n ω ρ (.Assign [.Name x p] e pos) Φ := by
  intro c s m own news Q E hcs ok S kk
  obtain ⟨own', S', _, back⟩ := S.open
  refine wpAny_Assign_Name (h c s m own' news hcs ok S' _ _ fun v h1 t1 n1 F1 N1 X1 ⟨d, D1, p1⟩ => ?_) (swaps_plain hc)
  obtain ⟨S1, X⟩ := back h1 n1 F1 N1 X1
  exact store_ (s := { s with heap := h1, toks := t1 }) hcs ok S1 hn hx D1 fun h2 S2 => kk .next h2 _ _ n1 .next ω _ S2 X trivial p1

theorem PS1.assignT {es : List Expr} {k : Nat} {p pos : Pos} {e : Expr} (hc : isComp e = false) (ht : ∀ vs k p, e ≠ .Tuple vs k p) (h : PE sc n ρ e fun d => PA sc n ω ρ (.Tuple es k p) d fun ρ' => Φ .next ω ρ') : PS1 sc n ω ρ (.Assign [.Tuple es k p] e pos) Φ := by
  intro c s m own news Q E hcs ok S kk
  obtain ⟨own', S', _, back⟩ := S.open
  refine Assign_Tuple (h c s m own' news hcs ok S' _ _ fun v h1 t1 n1 F1 N1 X1 ⟨d, D1, p1⟩ => ?_) (show swapsWith e (some (.Tuple es k p)) pos.line c.env = pure false from swaps_plain hc) ?_
  · obtain ⟨S1, X⟩ := back h1 n1 F1 N1 X1
    exact p1 c { s with heap := h1, toks := t1 } m own n1 v _ _ hcs ok S1 D1 fun h2 t2 m2 ρ2 S2 p2 => kk .next h2 t2 m2 n1 .next ω ρ2 S2 X trivial p2
  · cases e with
    | Tuple vs k p => exact (ht vs k p rfl).elim
    | _ => rfl

noncomputable def isStarred' : Expr → Bool
  | .Starred .. => true
  | _ => false
/-- what the exchanged stores ask, by the scope alone -/
noncomputable def swapNames (sc : Scope) (ts vs : List Expr) : Option (List Str) :=
  if !(ts.length == 2 || ts.length == 3) || vs.length != ts.length then none
  else if vs.any isStarred' then none
  else
    let line := (ts.head?.map (·.pos.line)).getD 0
    let names := ts.filterMap fun
      | .Name id pos => if sc.names.lookup id == some .local && pos.line == line then some id else none
      | _ => none
    if names.length != ts.length || names.eraseDups.length != names.length then none
    else if vs.all (foldedForSure 8) then none
    else if vs.all (constantsAlone 8) then none
    else some names
theorem swappedStores_of {ts vs : List Expr} {k1 k2 : Nat} {p1 p2 : Pos} {env : Env} {xs : List Str} (hk : env.scope.kind = .function) (h : swapNames env.scope ts vs = some xs) : swappedStores [.Tuple ts k1 p1] (.Tuple vs k2 p2) env = pure (some xs) := by
  unfold swapNames at h
  have hb : (env.blockKind != .function) = false := by unfold Env.blockKind; rw [hk]; rfl
  unfold swappedStores
  simp only [hb, Bool.or_false]
  split at h
  · cases h
  rename_i h1
  split
  · rename_i hh; exact absurd hh h1
  split at h
  · cases h
  rename_i h2
  split
  · rename_i hh
    refine absurd hh fun hh => h2 ?_
    refine Eq.trans ?_ hh
    congr 1
  simp only at h
  split at h
  · cases h
  rename_i h3
  split
  · rename_i hh; exact absurd hh h3
  split at h
  · cases h
  rename_i h4
  split
  · rename_i hh; exact absurd hh h4
  split at h
  · cases h
  rename_i h5
  split
  · rename_i hh; exact absurd hh h5
  cases h
  rfl

theorem PS1.assignTT {es vs : List Expr} {k k2 : Nat} {p p2 pos : Pos} {xs : List Str} (hs : swapNames sc es vs = some xs) (hx : xs.reverse.all (fun x => nameIs sc x .local && omNe ω x) = true)
    (hl' : Nat.ble vs.length 1000 = true) (hxl : xs.length = vs.length) (h : PEs sc n ρ vs fun ds => Φ .next ω (bindAll xs.reverse ds.reverse ρ)) : PS1 sc n ω ρ (.Assign [.Tuple es k p] (.Tuple vs k2 p2) pos) Φ := by
  intro c s m own news Q E hcs ok S kk
  obtain ⟨own', S', _, back⟩ := S.open
  refine Assign_Tuple_swapped (names := xs) ?_ rfl (swappedStores_of ok.kf (by rw [hcs]; exact hs))
  refine Tuple_ (h p2 c s m own' news hcs ok S' _ _ fun vals h1 t1 n1 F1 N1 X1 ⟨ds, D1, l1, p1⟩ => ?_)
  have hl : xs.length = ds.length := hxl.trans l1.symm
  have hl2 : ds.length ≤ 1000 := by rw [l1]; exact Nat.le_of_ble_eq_true hl'
  refine newTuple_N F1 N1 (fun h2 F2 N2 => ?_) (by rw [D1.length]; exact Nat.le_trans hl2 (by decide))
  have X2 := X1.trans (Ext.new (o := { cls := .type "tuple", data := .seq vals.toArray }) N1)
  have N2' := News_swap N2
  have ht : IsTup h2 h1.objs.size vals.toArray := isTup_of (k := 0) N2' (.head _)
  refine unpackItemsN_ (s := { s with heap := h2, toks := t1 }) F2 N2' ht ok.hh (by simp [D1.length, hl]) fun h3 F3 N3 => ?_
  obtain ⟨S3, X⟩ := back h3 _ F3 N3 X2
  have D3 : DatAll ((h1.objs.size, { cls := .type "tuple", data := .seq vals.toArray }) :: n1) vals.reverse ds.reverse := by
    have : ∀ {nw : Led} {vs : List Value} {ds : List Dat}, DatAll nw vs ds → DatAll nw vs.reverse ds.reverse := by
      intro nw vs
      induction vs with
      | nil => intro ds h; cases h; exact .nil
      | cons v vs ih =>
        intro ds h
        cases h with
        | cons a b => simpa using (ih b).append (.one a)
    exact this (D1.mono fun q hq => .tail _ hq)
  refine inOrder hcs ok xs.reverse _ _ ds.reverse ρ { s with heap := h3, toks := t1 } m (fun i x hi v Q s hw t htt => ?_) (by simp) hx S3 (by simpa using D3) (by simp [hl]) fun h4 tk4 m4 S4 => kk .next h4 tk4 m4 _ .next ω _ S4 X trivial p1
  rw [List.getElem?_map, hi] at htt
  cases htt
  exact bindName_ hw

theorem PS1.assign2 {e1 e2 : Expr} {x1 x2 : Str} {q1 q2 : Pos} {k k2 : Nat} {p p2 pos : Pos} (hs : swapNames sc [.Name x1 q1, .Name x2 q2] [e1, e2] = some [x1, x2]) (hx : [x2, x1].all (fun x => nameIs sc x .local && omNe ω x) = true) (hn : ([e1, e2] : List Expr).all noStar = true)
    (h : PE sc n ρ e1 fun a => PE sc n ρ e2 fun b => Φ .next ω ((x1, a) :: (x2, b) :: ρ)) : PS1 sc n ω ρ (.Assign [.Tuple [.Name x1 q1, .Name x2 q2] k p] (.Tuple [e1, e2] k2 p2) pos) Φ := by
  simp only [List.all_cons, Bool.and_eq_true] at hn
  exact PS1.assignTT hs (by simpa using hx) rfl rfl (PEs.cons (h.mono fun a ha => PEs.cons (ha.mono fun b hb => PEs.nil hb) hn.2.1) hn.1)
theorem PS1.assign3 {e1 e2 e3 : Expr} {x1 x2 x3 : Str} {q1 q2 q3 : Pos} {k k2 : Nat} {p p2 pos : Pos} (hs : swapNames sc [.Name x1 q1, .Name x2 q2, .Name x3 q3] [e1, e2, e3] = some [x1, x2, x3]) (hx : [x3, x2, x1].all (fun x => nameIs sc x .local && omNe ω x) = true) (hn : ([e1, e2, e3] : List Expr).all noStar = true)
    (h : PE sc n ρ e1 fun a => PE sc n ρ e2 fun b => PE sc n ρ e3 fun c => Φ .next ω ((x1, a) :: (x2, b) :: (x3, c) :: ρ)) : PS1 sc n ω ρ (.Assign [.Tuple [.Name x1 q1, .Name x2 q2, .Name x3 q3] k p] (.Tuple [e1, e2, e3] k2 p2) pos) Φ := by
  simp only [List.all_cons, Bool.and_eq_true] at hn
  exact PS1.assignTT hs (by simpa using hx) rfl rfl (PEs.cons (h.mono fun a ha => PEs.cons (ha.mono fun b hb => PEs.cons (hb.mono fun c hc => PEs.nil hc) hn.2.2.1) hn.2.1) hn.1)
/-- a tuple that a call hands back, by two, three, four names -/
theorem PA.tup2 {x1 x2 : Str} {q1 q2 : Pos} {k : Nat} {pos : Pos} {a b : Dat} {K : Rho → Prop} (hx : [x1, x2].all (fun x => nameIs sc x .local && omNe ω x) = true) (h : K ((x2, b) :: (x1, a) :: ρ)) : PA sc n ω ρ (.Tuple [.Name x1 q1, .Name x2 q2] k pos) (.tuple [a, b]) K := PA.tuple rfl hx rfl h
theorem PA.tup3 {x1 x2 x3 : Str} {q1 q2 q3 : Pos} {k : Nat} {pos : Pos} {a b c : Dat} {K : Rho → Prop} (hx : [x1, x2, x3].all (fun x => nameIs sc x .local && omNe ω x) = true) (h : K ((x3, c) :: (x2, b) :: (x1, a) :: ρ)) : PA sc n ω ρ (.Tuple [.Name x1 q1, .Name x2 q2, .Name x3 q3] k pos) (.tuple [a, b, c]) K := PA.tuple rfl hx rfl h
theorem PA.tup4 {x1 x2 x3 x4 : Str} {q1 q2 q3 q4 : Pos} {k : Nat} {pos : Pos} {a b c d : Dat} {K : Rho → Prop} (hx : [x1, x2, x3, x4].all (fun x => nameIs sc x .local && omNe ω x) = true) (h : K ((x4, d) :: (x3, c) :: (x2, b) :: (x1, a) :: ρ)) : PA sc n ω ρ (.Tuple [.Name x1 q1, .Name x2 q2, .Name x3 q3, .Name x4 q4] k pos) (.tuple [a, b, c, d]) K := PA.tuple rfl hx rfl h
noncomputable def notTuple : Expr → Bool
  | .Tuple .. => false
  | _ => true
theorem PS1.assignU {es : List Expr} {k : Nat} {p pos : Pos} {e : Expr} (hc : isComp e = false) (ht : notTuple e = true) (h : PE sc n ρ e fun d => PA sc n ω ρ (.Tuple es k p) d fun ρ' => Φ .next ω ρ') : PS1 sc n ω ρ (.Assign [.Tuple es k p] e pos) Φ :=
  PS1.assignT hc (fun vs k p he => by subst he; cases ht) h

theorem PS1.aug {x : Str} {p pos : Pos} {op : Operator} {e : Expr} {d : Dat} (hn : nameIs sc x .local = true) (hx : omNe ω x = true) (hd : ρ.lookup x = some d)
    (h : PE sc n ρ e fun b => PIn op d b fun r => Φ .next ω ((x, r) :: ρ)) : PS1 sc n ω ρ (.AugAssign (.Name x p) op e pos) Φ := by
  intro c s m own news Q E hcs ok S kk
  obtain ⟨own', S', _, back⟩ := S.open
  obtain ⟨v, hv, D⟩ := S'.R x d hd
  refine wpAny_AugAssign_Name (wpAny_loadName_local ok.kf (by show c.env.scope.names.lookup x = _; rw [hcs]; exact nameIs_kind hn) S'.F.ns hv ?_)
  refine h c s m own' news hcs ok S' _ _ fun u h1 t1 n1 F1 N1 X1 ⟨b, B1, p1⟩ => ?_
  refine p1 n c _ m own' n1 v u ok F1 N1 (D.mono X1.sub) B1 _ _ fun r h2 t2 n2 F2 N2 X2 ⟨e, D2, p2⟩ => ?_
  obtain ⟨S1, X⟩ := back h2 n2 F2 N2 (X1.trans X2)
  exact store_ (s := { s with heap := h2, toks := t2 }) hcs ok S1 hn hx D2 fun h3 S3 => kk .next h3 _ _ n2 .next ω _ S3 X trivial p2

theorem PS1.ite {t : Expr} {b o : List Stmt} {pos : Pos} (h : PT sc n ρ t fun x => if x = true then PS sc n ω ρ b Φ else PS sc n ω ρ o Φ) : PS1 sc n ω ρ (.If t b o pos) Φ := by
  intro c s m own news Q E hcs ok S kk
  obtain ⟨own', S', _, back⟩ := S.open
  refine wpAny_If (h c s m own' news hcs ok S' _ _ fun x h1 t1 n1 F1 N1 X1 p1 => ?_)
  obtain ⟨S1, X⟩ := back h1 n1 F1 N1 X1
  cases x with
  | true =>
    simp only [↓reduceIte] at p1 ⊢
    exact p1 c _ m own n1 _ _ hcs ok S1 fun fl h2 t2 m2 n2 pf ω2 ρ2 S2 X2 f p => kk fl h2 t2 m2 n2 pf ω2 ρ2 S2 (X.trans X2) f p
  | false =>
    simp only [Bool.false_eq_true, ↓reduceIte] at p1 ⊢
    exact p1 c _ m own n1 _ _ hcs ok S1 fun fl h2 t2 m2 n2 pf ω2 ρ2 S2 X2 f p => kk fl h2 t2 m2 n2 pf ω2 ρ2 S2 (X.trans X2) f p

theorem PS1.ret {e : Expr} {pos : Pos} (h : PE sc n ρ e fun d => Φ (.ret d) ω ρ) : PS1 sc n ω ρ (.Return (some e) pos) Φ := by
  intro c s m own news Q E hcs ok S kk
  obtain ⟨own', S', _, back⟩ := S.open
  refine wpAny_Return_some (h c s m own' news hcs ok S' _ _ fun v h1 t1 n1 F1 N1 X1 ⟨d, D1, p1⟩ => ?_)
  obtain ⟨S1, X⟩ := back h1 n1 F1 N1 X1
  exact kk (.ret v) h1 t1 m n1 (.ret d) ω ρ S1 X D1 p1

/-- a list of one's own: made, grown, handed on -/
theorem PS1.ownNew {x : Str} {p lp pos : Pos} {es : List Expr} (hn : nameIs sc x .local = true) (hl' : Nat.ble es.length 1000 = true) (h : PEs sc n ρ es fun ds => Φ .next (some (x, ds)) (ρ.filter fun q => !(q.1 == x))) : PS1 sc n none ρ (.Assign [.Name x p] (.List es lp) pos) Φ := by
  intro c s m own news Q E hcs ok S kk
  refine wpAny_Assign_Name (List_ (h lp c s m own news hcs ok ⟨S.F, S.N, S.R⟩ _ _ fun vs h1 t1 n1 F1 N1 X1 ⟨ds, D1, l1, p1⟩ => ?_)) rfl
  have hl : ds.length ≤ 1000 := by rw [l1]; exact Nat.le_of_ble_eq_true hl'
  refine newList_N F1 N1 (fun h2 F2 N2 => ?_) (by rw [D1.length]; exact Nat.le_trans hl (by decide))
  have lt1 : ∀ q ∈ own ++ n1, q.1 < h1.objs.size := fun q hq => Heap.lt_size (N1 q hq).1
  refine wpAny_storeName_local (by show c.env.scope.names.lookup x = _; rw [hcs]; exact nameIs_kind hn) F2.ns (fun h3 hn3 hs3 => ?_) (by rw [ok.kf]; rfl)
  refine kk .next h3 _ _ n1 .next (some (x, ds)) _ ⟨F2.set hn3 hs3, ?_, h1.objs.size, vs, 0, by simp, D1, News.set N2 hs3, fun q hq => lt1 q (List.mem_append_left _ hq), fun q hq => Nat.ne_of_lt (lt1 q (List.mem_append_right _ hq))⟩ X1 trivial p1
  intro y d hy
  have hne : y ≠ x := by
    intro e; subst e
    have : ∀ ρ : Rho, (ρ.filter fun q => !(q.1 == y)).lookup y = Option.none := by
      intro ρ
      induction ρ with
      | nil => rfl
      | cons q r ih =>
        rw [List.filter_cons]
        split
        · rename_i hq
          obtain ⟨q1, q2⟩ := q
          rw [List.lookup_cons]
          have : (y == q1) = false := by
            simp at hq; simp; exact fun e => hq e.symm
          rw [this]; exact ih
        · exact ih
    rw [this] at hy; cases hy
  have hl : ρ.lookup y = some d := by
    have : ∀ ρ : Rho, (ρ.filter fun q => !(q.1 == x)).lookup y = ρ.lookup y := by
      intro ρ
      induction ρ with
      | nil => rfl
      | cons q r ih =>
        obtain ⟨q1, q2⟩ := q
        rw [List.filter_cons]
        split
        · rw [List.lookup_cons, List.lookup_cons, ih]
        · rename_i hq
          have : q1 = x := by simpa using hq
          subst this
          rw [List.lookup_cons, ih]
          have : (y == q1) = false := by simpa using hne
          rw [this]
    rw [this] at hy; exact hy
  obtain ⟨v, a, b⟩ := S.R y d hl
  exact ⟨v, by simp [hne, a], b.mono X1.sub⟩

theorem PS.freeze {x : Str} {ds : List Dat} {ss : List Stmt} (h : PS sc n none ((x, .list ds) :: ρ) ss Φ) : PS sc n (some (x, ds)) ρ ss Φ := by
  intro c s m own news Q E hcs ok S kk
  obtain ⟨F, R, a, vs, k, hx, D, N, h1, h2⟩ := S
  refine h c s m own ((a, W.listOf vs.toArray k) :: news) Q E hcs ok ⟨F, ?_, News_swap N⟩ fun fl h' t' m' n' pf ω' ρ' S' X f p => kk fl h' t' m' n' pf ω' ρ' S' ((Ext.cons fun q hq => Nat.ne_of_lt (h1 q hq)).trans X) f p
  intro y d hy
  rw [List.lookup_cons] at hy
  by_cases e : y = x
  · subst e
    simp only [beq_self_eq_true] at hy
    cases hy
    exact ⟨_, hx, .list (.head _) (D.mono fun q hq => .tail _ hq)⟩
  · have : (y == x) = false := by simpa using e
    rw [this] at hy
    obtain ⟨v, p, q⟩ := R y d hy
    exact ⟨v, p, q.mono fun q hq => .tail _ hq⟩

theorem base_name {x : Str} {p : Pos} {nm : Str} {env : Env} {w : Sem Value} : attributeBase (.Name x p) nm env w = w := rfl

theorem PS1.append {x : Str} {p ap pos cp : Pos} {e : Expr} {ds : List Dat} (hn : nameIs sc x .local = true) (he : noStar e = true) (hl : (ap.endLine == cp.line) = true) (hsz : ds.length ≤ 100000)
    (h : PE sc n ρ e fun d => Φ .next (some (x, ds ++ [d])) ρ) : PS1 sc n (some (x, ds)) ρ (.Expr (.Call (.Attribute (.Name x p) (Str.ofString "append") ap) [e] [] cp) pos) Φ := by
  intro c s m own news Q E hcs ok S kk
  obtain ⟨F, R, a, vs, k, hx, D, N, h1, h2⟩ := S
  refine wpAny_Expr ?_ (by unfold interactive; rw [ok.kf]; rfl) rfl
  refine wpAny_Call_method_lateS (prog := c.prog) (w := c.w) base_name ?_ hl (wpAny_Name (wpAny_loadName_local ok.kf (by show c.env.scope.names.lookup x = _; rw [hcs]; exact nameIs_kind hn) F.ns hx ?_) (nameIs_dbg hn))
  · rw [starEach_cons he]; rfl
  · have ha : s.heap.get? a = some (W.listOf vs.toArray k) := N.get (.head _)
    refine ⟨"list", "list.append", PySem.F.plainAttrs_list, PySem.F.slot_list_append, PySem.F.type_list_append, ⟨_, ha, rfl⟩, fun b hb => ?_, ?_⟩
    · cases hb; exact ⟨_, ha, rfl⟩
    rw [starEach_cons he]
    refine callWith_builtin rfl (evalArgs_plain (spliced_cons (h c s m ((a, W.listOf vs.toArray k) :: own) news hcs ok ⟨F, N, R⟩ _ _ fun v h1' t1 n1 F1 N1 X1 ⟨d, D1, p1⟩ => spliced_nil ?_)))
    have hne : ∀ q ∈ own ++ n1, q.1 ≠ a := fun q hq => by
      rcases List.mem_append.mp hq with hq | hq
      · exact Nat.ne_of_lt (h1 q hq)
      · rcases X1.up q hq with hh | hh
        · exact h2 q hh
        · exact (hh _ (.head _)).symm
    refine append_K (D := a) (news' := (a, W.listOf (vs.toArray.push v) (k + 1)) :: (own ++ n1)) F1 N1 (Upd.head hne) (fun h3 F3 N3 => ?_) ?_
    · refine kk .next h3 _ m n1 .next (some (x, ds ++ [d])) ρ ⟨F3, R.mono X1.sub, a, vs ++ [v], k + 1, hx, (D.mono X1.sub).append (.one D1), ?_, h1, fun q hq => hne q (List.mem_append_right _ hq)⟩ ⟨X1.sub, fun p hp => (X1.up p hp).imp_right fun h q hq => h q (.tail _ hq)⟩ trivial p1
      simpa using N3
    · rw [List.size_toArray, D.length]; exact Nat.le_trans hsz (by decide)
end
/-- a call of a def of the text -/
noncomputable def FSpec (n : Nat) (f : Str) (ds : List Dat) (Ψ : Dat → Prop) : Prop :=
  (∃ d ∈ recsOf pw, d.name = f) ∧
  ∀ (c : FC) (s : Shared) (m : Str → Option Value) (own news : Led) (vs : List Value) (a : Addr), c.Ok n → Fr c.h₀ c.L s.heap m → News c.h₀ c.L s.heap (own ++ news) → DatAll news vs ds → c.mg f = some (.ref a) →
    Den c m own news (call (.ref a) vs) (fun nw r => ∃ d, DatIn nw r d ∧ Ψ d) s

theorem FSpec.mono {n : Nat} {f : Str} {ds : List Dat} {Ψ Ψ' : Dat → Prop} (h : FSpec n f ds Ψ) (k : ∀ d, Ψ d → Ψ' d) : FSpec n f ds Ψ' :=
  ⟨h.1, fun c s m own news vs a ok F N D hg Q E kk => h.2 c s m own news vs a ok F N D hg Q E fun r h' tk' nw F' N' X ⟨d, A, p⟩ => kk r h' tk' nw F' N' X ⟨d, A, k d p⟩⟩

theorem FC.Ok.mono {c : FC} {n k : Nat} (ok : c.Ok n) (h : k ≤ n) : c.Ok k :=
  ⟨ok.T, ok.S, ok.kf, ok.gl, ok.bl, ok.hh, ok.gd, by have := ok.dpr; walk_at "ar", by have := ok.unr; walk_at "ar", fun hk => ok.full (by walk_at "ar")⟩
theorem FSpec.up {n k : Nat} {f : Str} {ds : List Dat} {Ψ : Dat → Prop} (h : FSpec n f ds Ψ) (hk : n ≤ k) : FSpec k f ds Ψ :=
  ⟨h.1, fun c s m own news vs a ok => h.2 c s m own news vs a (ok.mono hk)⟩

section
variable {sc : Scope} {n : Nat} {ρ : Rho} {Ψ : Dat → Prop}

theorem fnAt {c : FC} (ok : c.Ok n) {f : Str} (h : ∃ d ∈ recsOf pw, d.name = f) : ∃ d ∈ recsOf pw, d.name = f ∧ ∃ a o pm code doc, c.mg f = some (.ref a) ∧ c.h₀.get? a = some o ∧ o.data = .func (docDef d.name d.params d.body d.scope pm code doc) ∧ c.h₀.CodeRec code d.name := by
  obtain ⟨d, hd, rfl⟩ := h
  obtain ⟨a, o, pm, code, doc, h1, h2, h3, h4⟩ := ok.T.fn d (ok.S.fn d hd)
  exact ⟨d, hd, rfl, a, o, pm, code, doc, h1, h2, h3, h4⟩

theorem PE.callF {x : Str} {p pos : Pos} {e : Expr} {es : List Expr} (hn : nameIs sc x .globalImplicit = true) (hs : (e :: es).all noStar = true) (hx : ∃ d ∈ recsOf pw, d.name = x)
    (h : PEs sc n ρ (e :: es) fun ds => FSpec n x ds Ψ) : PE sc n ρ (.Call (.Name x p) (e :: es) [] pos) Ψ := by
  intro c s m own news hc ok S Q E kk
  obtain ⟨d, hd, _, a, o, pm, code, doc, h1, h2, h3, h4⟩ := fnAt ok hx
  refine Call_ (Name_function_global ok.kf (by show c.env.scope.names.lookup x = _; rw [hc]; exact nameIs_kind hn) (loadGlobal_global (mg := c.mg) (v := .ref a) ?_ h1 ?_) (nameIs_dbg hn))
  · rw [ok.gl]; exact ok.T.g.keeps S.F.keep
  rw [List.all_cons, Bool.and_eq_true] at hs
  refine callWith_def (o := o) h3 ?_ (starEach_cons hs.1)
  refine h pos c s m own news hc ok S _ _ fun vs h1' t1 n1 F1 N1 X1 ⟨ds, D1, _, p1⟩ => ⟨F1.keep _ _ h2, ?_⟩
  exact p1.2 c _ m own n1 vs a ok F1 N1 D1 h1 _ _ fun r h2 t2 n2 F2 N2 X2 p2 => kk r h2 t2 n2 F2 N2 (X1.trans X2) p2
theorem PE.callF0 {x : Str} {p pos : Pos} (hn : nameIs sc x .globalImplicit = true) (h : FSpec n x [] Ψ) : PE sc n ρ (.Call (.Name x p) [] [] pos) Ψ := by
  intro c s m own news hc ok S Q E kk
  obtain ⟨d, hd, _, a, o, pm, code, doc, h1, h2, h3, h4⟩ := fnAt ok h.1
  refine Call_ (Name_function_global ok.kf (by show c.env.scope.names.lookup x = _; rw [hc]; exact nameIs_kind hn) (loadGlobal_global (mg := c.mg) (v := .ref a) ?_ h1 ?_) (nameIs_dbg hn))
  · rw [ok.gl]; exact ok.T.g.keeps S.F.keep
  refine callWith_function (o := o) (fd := _) (evalArgs_empty ⟨⟨S.F.keep _ _ h2, h3⟩, ?_⟩)
  exact h.2 c s m own news [] a ok S.F S.N .nil h1 _ _ fun r h2 t2 n2 F2 N2 X2 p2 => kk r h2 t2 n2 F2 N2 X2 p2
end

/-! entering a def -/
noncomputable def paramNames (a : Arguments) : List Str := a.args.map (·.arg)
theorem zip_env {news : Led} : ∀ {xs : List Str} {vs : List Value} {ds : List Dat}, DatAll news vs ds → EnvIn news (fun y => (xs.zip vs).reverse.lookup y) (xs.zip ds).reverse
  | [], vs, ds, _ => fun x d e => by simp at e
  | x :: xs, [], ds, D => by cases D; intro y d e; simp at e
  | x :: xs, v :: vs, _, .cons (d := d) (ds := ds) A D => by
    intro y e he
    have ih := zip_env (xs := xs) D y
    simp only [List.zip_cons_cons, List.reverse_cons, List.lookup_append] at he ⊢
    cases hq : (xs.zip ds).reverse.lookup y with
    | some e' =>
      rw [hq] at he
      have : e' = e := by simpa using he
      subst this
      obtain ⟨w, hw, hd⟩ := ih e' hq
      have hw : (xs.zip vs).reverse.lookup y = some w := hw
      exact ⟨w, by rw [hw]; rfl, hd⟩
    | none =>
      rw [hq] at he
      have hn : (xs.zip vs).reverse.lookup y = Option.none := by
        have key : ∀ {xs : List Str} {vs : List Value} {ds : List Dat}, DatAll news vs ds → (xs.zip ds).reverse.lookup y = Option.none → (xs.zip vs).reverse.lookup y = Option.none := by
          intro xs
          induction xs with
          | nil => intro vs ds _ _; simp
          | cons x xs ih =>
            intro vs ds D h
            cases D with
            | nil => simp
            | cons A D =>
              simp only [List.zip_cons_cons, List.reverse_cons, List.lookup_append, Option.or_eq_none_iff] at h ⊢
              refine ⟨ih D h.1, ?_⟩
              have := h.2
              by_cases hy : y = x
              · subst hy; simp [List.lookup_cons] at this
              · have : (y == x) = false := by simpa using hy
                simp [List.lookup_cons, this]
        exact key D hq
      rw [hn]
      by_cases hy : y = x
      · subst hy
        simp [List.lookup_cons] at he
        subst he
        exact ⟨v, by simp [List.lookup_cons], A⟩
      · have : (y == x) = false := by simpa using hy
        simp [List.lookup_cons, this] at he

noncomputable def scopeOk (sc : Scope) (xs : List Str) : Bool :=
  sc.kind == .function && !sc.isCoroutine && !sc.isGenerator && sc.names.all (fun x => x.2 != .cell) && xs.all fun x => sc.names.lookup x == some .local
noncomputable def Ends (Ψ : Dat → Prop) : PF → Om → Rho → Prop := fun pf _ _ => match pf with
  | .ret d => Ψ d
  | .next => Ψ .none
  | _ => False

theorem FSpec.of_body {n : Nat} {f : Str} {ds : List Dat} {Ψ : Dat → Prop} {params : Arguments} {body : List Stmt} {scope : Scope} {pos : Pos} (hm : (⟨f, params, body, scope, pos⟩ : DefRec) ∈ recsOf pw)
    (hb : ∀ vs : List Value, vs.length = ds.length → ∀ pm code doc, bindArgs (docDef f params body scope pm code doc) ⟨vs, []⟩ = pure ((paramNames params).zip vs))
    (hs : scopeOk scope (paramNames params) = true) (h : PS scope n none ((paramNames params).zip ds).reverse body (Ends Ψ)) : FSpec (n + 1) f ds Ψ := by
  refine ⟨⟨_, hm, rfl⟩, fun c s m own news vs a ok F N D hg Q E kk => ?_⟩
  obtain ⟨a', o, pm, code, doc, h1, h2, h3, h4⟩ := ok.T.fn _ (ok.S.fn _ hm)
  have : a' = a := by rw [hg] at h1; cases h1; rfl
  subst this
  simp only [scopeOk, Bool.and_eq_true, beq_iff_eq, Bool.not_eq_true', List.all_eq_true, bne_iff_ne, ne_eq] at hs
  obtain ⟨⟨⟨⟨k1, k2⟩, k3⟩, k4⟩, k5⟩ := hs
  obtain ⟨A₀, base, outer, B, hfr, hff⟩ := ok.full (by walk_at "ar")
  refine wpAny_call (callX_plain (cl := []) (fo := o) B F N ok.T.nolimit hfr hff ok.kf (F.keep _ _ h2) h3 (h4.keeps F.keep) (by have := ok.dpr; walk_at "ar") (BindsTo.of_eq (hb vs D.length pm code doc)) (fun y hy => ?_) (fun g L' h₁ FG F' N' B' st lt => ?_) (fun x hx => k4 x hx) k2 k3 k1)
  · exact k5 _ (List.of_mem_zip hy).1
  · let c' : FC := { c with env := envX f scope L' a' code [], A := c.A.deeper (envX f scope L' a' code []), h₀ := g }
    have ok' : c'.Ok n := by
      refine ⟨ok.T.keeps st, ok.S, k1, rfl, rfl, ok.hh, ok.gd, ?_, ?_, fun _ => ⟨_, base, _, B', ?_, rfl⟩⟩
      · show c.A.depth + 1 + n < _; have := ok.dpr; walk_at "ar"
      · show c.A.units + 3 + 8 * n + 100 < _; have := ok.unr; walk_at "ar"
      · show c.A.frames.map _ = _; rw [hfr]; rfl
    refine h c' _ (fun y => ((paramNames params).zip vs).reverse.lookup y) own news _ _ rfl ok' ⟨F', zip_env D, N'⟩ fun fl h' tk' m' nw pf ω' ρ' S' X f p => ?_
    have N2 : News g L' h' (own ++ nw) := by
      have := S'.N
      cases ω' with
      | none => exact this
      | some z =>
        obtain ⟨_, _, _, _, _, N, _⟩ := this
        exact fun q hq => N q (.tail _ hq)
    have fin : ∀ v d, (match fl with | .ret v => v | _ => .none) = v → DatIn nw v d → Ψ d → LeaveK c.h₀ c.L m g (fun r s' => match r with | .ok (.ret v) => Q v s' | .ok _ => False | .error e => E e s') (match fl with | .ret v => v | _ => .none) { s with heap := h', toks := tk' } := by
      intro v d hv A p
      rw [hv]
      exact leaveK_ S'.F N2 fun F3 N3 => kk v h' tk' nw F3 N3 X ⟨d, A, p⟩
    cases pf with
    | next => cases fl <;> first | exact (f : False).elim | exact fin .none .none rfl .none p
    | ret d => cases fl <;> first | exact (f : False).elim | exact fin _ d rfl f p
    | brk => exact (p : False).elim
    | cont => exact (p : False).elim

theorem mem_recs {k : Nat} {f : Str} {params : Arguments} {body : List Stmt} {scope : Scope} {b : Str} {pos : Pos} (hst : pw.main.body[k]? = some (.FunctionDef f params body [] Option.none [] scope Option.none b pos))
    (hd : pw.theDef f = some (params, body, scope)) (hp : params.defaults = [] ∧ params.kwonlyargs = [] ∧ params.kw_defaults = []) : (⟨f, params, body, scope, pos⟩ : DefRec) ∈ recsOf pw := by
  refine List.mem_filterMap.mpr ⟨_, List.mem_of_getElem? hst, ?_⟩
  simp only [hd, hp.1, hp.2.1, hp.2.2]
  rfl
section
variable {sc : Scope} {n : Nat} {ω : Om} {ρ ρ' : Rho} {Φ : PF → Om → Rho → Prop}

theorem PS1.while {test : Expr} {body orelse : List Stmt} {pos : Pos} (I : Nat → Om → Rho → Prop) (k : Nat)
    (turn : ∀ k ω ρ, I k ω ρ → PT sc n ρ test fun b => if b = true then PS sc n ω ρ body (fun pf ω' ρ' => match pf with
        | .next | .cont => ∃ k', k' < k ∧ I k' ω' ρ'
        | .brk => Φ .next ω' ρ'
        | .ret d => Φ (.ret d) ω' ρ') else PS sc n ω ρ orelse Φ)
    (h : I k ω ρ) : PS1 sc n ω ρ (.While test body orelse pos) Φ := by
  intro c s m own news Q E hcs ok S kk
  refine wpAny_While ?_
  refine codeAny_whileLoop (fun k s' => ∃ h' tk' m' news' ω' ρ', s' = { s with heap := h', toks := tk' } ∧ StO c ω' ρ' own news' m' h' ∧ Ext own news news' ∧ I k ω' ρ') ?_ k ⟨s.heap, s.toks, m, news, ω, ρ, rfl, S, .refl, h⟩
  rintro k s' ⟨h1, t1, m1, n1, ω1, ρ1, rfl, S1, X1, hI⟩
  obtain ⟨own', S', _, back⟩ := StO.open (s := { s with heap := h1, toks := t1 }) S1
  refine turn k ω1 ρ1 hI c _ m1 own' n1 hcs ok S' _ _ fun b h2 t2 n2 F2 N2 X2 p2 => ?_
  obtain ⟨S2, X3⟩ := back h2 n2 F2 N2 X2
  have X := X1.trans X3
  cases b with
  | true =>
    simp only [↓reduceIte] at p2 ⊢
    refine p2 c { s with heap := h2, toks := t2 } m1 own n2 _ _ hcs ok S2 fun fl h3 t3 m3 n3 pf ω3 ρ3 S3 X4 f p => ?_
    cases pf with
    | next => cases fl <;> first | exact (f : False).elim | exact (let ⟨k', hk, hi⟩ := p; ⟨k', hk, h3, t3, m3, n3, ω3, ρ3, rfl, S3, X.trans X4, hi⟩)
    | cont => cases fl <;> first | exact (f : False).elim | exact (let ⟨k', hk, hi⟩ := p; ⟨k', hk, h3, t3, m3, n3, ω3, ρ3, rfl, S3, X.trans X4, hi⟩)
    | brk => cases fl <;> first | exact (f : False).elim | exact kk .next h3 t3 m3 n3 .next ω3 ρ3 S3 (X.trans X4) trivial p
    | ret d => cases fl <;> first | exact (f : False).elim | exact kk _ h3 t3 m3 n3 (.ret d) ω3 ρ3 S3 (X.trans X4) f p
  | false =>
    simp only [Bool.false_eq_true, ↓reduceIte] at p2 ⊢
    exact p2 c { s with heap := h2, toks := t2 } m1 own n2 _ _ hcs ok S2 fun fl h3 t3 m3 n3 pf ω3 ρ3 S3 X4 f p => kk fl h3 t3 m3 n3 pf ω3 ρ3 S3 (X.trans X4) f p

/-- the turns of a for: D i is what the iterator gives at the turn i -/
noncomputable def ForJ (sc : Scope) (n : Nat) (target : Expr) (body : List Stmt) (k : Nat) (D : Nat → Dat) (J : Nat → Rho → Prop) (Φ : PF → Om → Rho → Prop) : Prop :=
  ∀ i ρ, i < k → J i ρ → PA sc n none ρ target (D i) fun ρ' => PS sc n none ρ' body fun pf ω' ρ'' => match pf with
    | .next | .cont => ω' = none ∧ J (i + 1) ρ''
    | .brk => Φ .next ω' ρ''
    | .ret d => Φ (.ret d) ω' ρ''

theorem for_core {c : FC} {s : Shared} {m : Str → Option Value} {own news : Led} {Q : Flow → Shared → Prop} {E : Value → Shared → Prop} {target : Expr} {body : List Stmt} {I : Addr} {fp wr : List Addr} {k : Nat} {P : Nat → Value → Prop}
    {St : Nat → Heap → Prop} {D : Nat → Dat} {J : Nat → Rho → Prop} (hcs : c.env.scope = sc) (ok : c.Ok n) (S : StO c none ρ own news m s.heap)
    (W : Walks c.prog c.w c.A I fp wr k P St) (hw : ∀ b ∈ wr, b = I) (hfp : ∀ b ∈ fp, b = I ∨ ∃ o, (b, o) ∈ news) (hI : ∀ q ∈ own ++ news, q.1 < I) (hIL : c.L ≠ I) (hI0 : c.h₀.get? I = Option.none)
    (hobj : ∀ i h, St i h → ∃ o, h.get? I = some o) (hst : St 0 s.heap) (hgo : ∀ (s' : Shared) (v : Value) (i : Nat), St i s'.heap → ∀ (Q : Unit → Shared → Prop) (E : Value → Shared → Prop), Q () s' → wpAny c.M c.A (letOwnedTupleGo target (.ref I) v) Q E s')
    (hP : ∀ i v, i < k → P i v → ∀ nw : Led, (∀ p ∈ news, p ∈ nw) → DatIn nw v (D i)) (turn : ForJ sc n target body k D J Φ) (h0 : J 0 ρ) (fin : ∀ ρ, J k ρ → Φ .next none ρ)
    (kk : ∀ fl h' tk' m' news' pf ω' ρ', StO c ω' ρ' own news' m' h' → Ext own news news' → FlowIn news' fl pf → Φ pf ω' ρ' → Q fl { s with heap := h', toks := tk' }) :
    codeAny c.M c.A (.forLoop target (.ref I) body [] c.env) (fun r s' => match r with | .ok f => Q f s' | .error e => cameBackBy c.M c.A c.env E e s') s := by
  refine codeAny_forLoop_any (fun t s' => ∃ i h' tk' m' news' ρ', s' = { s with heap := h', toks := tk' } ∧ t + i = k ∧ StO c none ρ' own news' m' h' ∧ Ext ((I, default) :: own) news news' ∧ St i h' ∧ J i ρ') ?_ k
    ⟨0, s.heap, s.toks, m, news, ρ, rfl, rfl, S, .refl, hst, h0⟩
  rintro t s' ⟨i, h1, t1, m1, n1, ρ1, rfl, hti, S1, X1, st, hJ⟩
  have keepL : ∀ {h h' : Heap} {m : Str → Option Value}, Fr c.h₀ c.L h m → (∀ b o, b ∉ wr → h.get? b = some o → h'.get? b = some o) → Fr c.h₀ c.L h' m := by
    intro h h' m F hk
    obtain ⟨oL, a1, a2, hL, a3⟩ := F.ns
    refine ⟨⟨oL, a1, a2, hk _ _ (fun q => hIL (hw _ q)) hL, a3⟩, fun b o e => hk b o (fun q => ?_) (F.keep b o e), F.above⟩
    rw [hw _ q, hI0] at e; cases e
  have hI1 : ∀ q ∈ own ++ n1, q.1 ≠ I := fun q hq => by
    rcases List.mem_append.mp hq with hq | hq
    · exact Nat.ne_of_lt (hI q (List.mem_append_left _ hq))
    · rcases X1.up q hq with hh | hh
      · exact Nat.ne_of_lt (hI q (List.mem_append_right _ hh))
      · exact (hh _ (.head _)).symm
  have keepN : ∀ {h h' : Heap}, News c.h₀ c.L h (own ++ n1) → (∀ b o, b ∉ wr → h.get? b = some o → h'.get? b = some o) → News c.h₀ c.L h' (own ++ n1) := by
    intro h h' N hk q hq
    exact ⟨hk _ _ (fun e => hI1 q hq (hw _ e)) (N q hq).1, (N q hq).2⟩
  have X1' : Ext own news n1 := ⟨X1.sub, fun p hp => (X1.up p hp).imp_right fun h q hq => h q (.tail _ hq)⟩
  by_cases hi : i < k
  · refine W.item i { s with heap := h1, toks := t1 } _ _ hi st fun v h2 t2 hv st2 hk2 => ?_
    have F2 := keepL S1.F hk2
    have N2 := keepN S1.N hk2
    have S2 : StO c none ρ1 own n1 m1 h2 := ⟨F2, S1.R, N2⟩
    refine hgo { s with heap := h2, toks := t2 } v (i + 1) st2 _ _ ?_
    obtain ⟨oI, hoI⟩ := hobj _ _ st2
    -- the iterator stands among what is reserved
    have SI : StO c none ρ1 ((I, oI) :: own) n1 m1 h2 := ⟨F2, S1.R, fun q hq => by
      rcases List.mem_cons.mp (show q ∈ (I, oI) :: (own ++ n1) from hq) with rfl | hq
      · exact ⟨hoI, hIL.symm, hI0⟩
      · exact N2 q hq⟩
    refine turn i ρ1 hi hJ c { s with heap := h2, toks := t2 } m1 ((I, oI) :: own) n1 v _ _ hcs ok SI (hP i v hi hv n1 X1.sub) fun h3 t3 m3 ρ3 S3 p3 => ?_
    refine p3 c { s with heap := h3, toks := t3 } m3 ((I, oI) :: own) n1 _ _ hcs ok S3 fun fl h4 t4 m4 n4 pf ω4 ρ4 S4 X4 f p => ?_
    have X4' : Ext own n1 n4 := ⟨X4.sub, fun p hp => (X4.up p hp).imp_right fun h q hq => h q (.tail _ hq)⟩
    have hIh : h4.get? I = some oI := by
      have := S4.N
      cases ω4 with
      | none => exact (this (I, oI) (.head _)).1
      | some z =>
        obtain ⟨_, _, _, _, _, N, _⟩ := this
        exact (N (I, oI) (.tail _ (.head _))).1
    have S4' : StO c ω4 ρ4 own n4 m4 h4 := by
      refine ⟨S4.F, S4.R, ?_⟩
      have := S4.N
      cases ω4 with
      | none => exact fun q hq => this q (.tail _ hq)
      | some z =>
        obtain ⟨a, vs, kk, h1, h2, N, h3, h4⟩ := this
        refine ⟨a, vs, kk, h1, h2, fun q hq => N q ?_, fun q hq => h3 q (.tail _ hq), h4⟩
        rcases List.mem_cons.mp hq with rfl | hq
        · exact .head _
        · exact .tail _ (.tail _ hq)
    have again : ω4 = none → J (i + 1) ρ4 → ∃ m, m < t ∧ ∃ i h' tk' m' news' ρ', ({ s with heap := h4, toks := t4 } : Shared) = { s with heap := h', toks := tk' } ∧ m + i = k ∧ StO c none ρ' own news' m' h' ∧ Ext ((I, default) :: own) news news' ∧ St i h' ∧ J i ρ' := by
      intro hω hJ'
      subst hω
      refine ⟨t - 1, by walk_at "ar", i + 1, h4, t4, m4, n4, ρ4, rfl, by walk_at "ar", S4', X1.trans ⟨X4.sub, fun p hp => (X4.up p hp).imp_right fun h q hq => ?_⟩, ?_, hJ'⟩
      · rcases List.mem_cons.mp hq with rfl | hq
        · exact h (I, oI) (.head _)
        · exact h q (.tail _ hq)
      · refine W.frame _ h2 h4 st2 fun b hb o hbo => ?_
        rcases hfp b hb with rfl | ⟨o', ho'⟩
        · rw [hoI] at hbo; cases hbo; exact hIh
        · have e1 := (N2 (b, o') (List.mem_append_right _ (X1.sub _ ho'))).1
          have e2 : h4.get? b = some o' := by
            have hm : (b, o') ∈ n4 := X4.sub _ (X1.sub _ ho')
            exact ((show News c.h₀ c.L h4 (own ++ n4) from S4'.N) _ (List.mem_append_right _ hm)).1
          rw [e1] at hbo; cases hbo; exact e2
    cases pf with
    | next => cases fl <;> first | exact (f : False).elim | exact again p.1 p.2
    | cont => cases fl <;> first | exact (f : False).elim | exact again p.1 p.2
    | brk => cases fl <;> first | exact (f : False).elim | exact kk .next h4 t4 m4 n4 .next ω4 ρ4 S4' (X1'.trans X4') trivial p
    | ret d => cases fl <;> first | exact (f : False).elim | exact kk _ h4 t4 m4 n4 (.ret d) ω4 ρ4 S4' (X1'.trans X4') f p
  · have hik : i = k := by walk_at "ar"
    subst hik
    refine W.done { s with heap := h1, toks := t1 } _ _ st fun h2 t2 hk2 => ?_
    exact wpAny_execs_nil (kk .next h2 t2 m1 n1 .next none ρ1 ⟨keepL S1.F hk2, S1.R, keepN S1.N hk2⟩ X1' trivial (fin _ hJ))

/-- a name's or a tuple's target lets no iterator of a list go -/
theorem go_name {target : Expr} {x : Str} {p : Pos} (h : target = .Name x p) {c : FC} {s : Shared} {it v : Value} {Q : Unit → Shared → Prop} {E : Value → Shared → Prop} (hq : Q () s) : wpAny c.M c.A (letOwnedTupleGo target it v) Q E s := by
  subst h; exact wpAny_pure hq
noncomputable def lettingGo : List String := ["enumerate", "zip", "dict_itemiterator", "dict_reverseitemiterator", "odict_iterator", "itertools.zip_longest", "itertools.pairwise"]
theorem go_any {target : Expr} {c : FC} {s : Shared} {I : Addr} {v : Value} {Q : Unit → Shared → Prop} {E : Value → Shared → Prop} {o : Obj} {nm : String} (ho : s.heap.get? I = some o) (hc : o.cls = .type nm) (hn : nm = "list_iterator" ∨ nm = "tuple_iterator") (hq : Q () s) :
    wpAny c.M c.A (letOwnedTupleGo target (.ref I) v) Q E s := by
  have key : ∀ a, wpAny c.M c.A (do
      let (.ref r, .ref a) := (Value.ref I, Value.ref a) | return
      let o ← load r
      match o.cls, o.data with
      | .type n, .fields vs =>
        if lettingGo.contains n && vs[0]? == some (rawInt a) then
          rule "for.unpacks-the-owned-tuple"
          updateField r 0 .none
      | _, _ => pure ()) Q E s := by
    intro a
    refine wpAny_bind (wpAny_load ho ?_)
    rw [hc]
    split
    · rename_i n vs e1 e2
      cases e1
      rw [if_neg]
      · exact wpAny_pure hq
      · rcases hn with rfl | rfl <;> simp [lettingGo]
    · exact wpAny_pure hq
  cases target with
  | Tuple es k p => cases v <;> first | exact wpAny_pure hq | exact key _
  | List es p => cases v <;> first | exact wpAny_pure hq | exact key _
  | _ => exact wpAny_pure hq

noncomputable def notSet : Expr → Bool
  | .Set .. => false
  | _ => true
theorem notSet_folds {e : Expr} {env : Env} (h : notSet e = true) : ∀ x, foldedSetIterable e env x = pure x := by
  intro x; cases e <;> first | rfl | cases h

theorem PS1.forL {target iter : Expr} {body : List Stmt} {pos : Pos} (hi : notSet iter = true)
    (h : PE sc n ρ iter fun d => ∃ ds, (d = .list ds ∨ d = .tuple ds) ∧ ∃ J : Nat → Rho → Prop, ForJ sc n target body ds.length (fun i => ds.getD i .none) J Φ ∧ J 0 ρ ∧ ∀ ρ, J ds.length ρ → Φ .next none ρ) :
    PS1 sc n none ρ (.For target iter body [] pos) Φ := by
  intro c s m own news Q E hcs ok S kk
  refine wpAny_For (h c s m own news hcs ok ⟨S.F, S.N, S.R⟩ _ _ fun v h1 t1 n1 F1 N1 X1 ⟨d, A1, ds, hd, J, turn, h0, fin⟩ => ?_) (notSet_folds hi)
  have S1 : StO c none ρ own n1 m h1 := ⟨F1, S.R.mono X1.sub, N1⟩
  have lt1 : ∀ q ∈ own ++ n1, q.1 < h1.objs.size := fun q hq => Heap.lt_size (N1 q hq).1
  have hI0 : c.h₀.get? h1.objs.size = Option.none := by
    cases q : c.h₀.get? h1.objs.size with
    | none => rfl
    | some o => exact absurd (Heap.lt_size (F1.keep _ _ q)) (Nat.lt_irrefl _)
  have hIL : c.L ≠ h1.objs.size := by
    obtain ⟨oL, _, _, hL, _⟩ := F1.ns
    exact Nat.ne_of_lt (Heap.lt_size hL)
  have hget : ∀ {vs : List Value} {i : Nat} {v : Value}, DatAll n1 vs ds → vs.toArray[i]? = some v → DatIn n1 v (ds.getD i .none) := by
    intro vs i v D e
    have hi : i < vs.length := by
      by_cases hh : i < vs.length
      · exact hh
      · simp [Nat.not_lt.mp hh] at e
    obtain ⟨w, hw, hd⟩ := D.get (k := i) (by rw [← D.length]; exact hi)
    have : v = w := by
      have e' : vs[i]? = some v := by simpa using e
      rw [hw] at e'; exact (Option.some.inj e').symm
    subst this
    rw [List.getD_eq_getElem?_getD, List.getElem?_eq_getElem (by rw [← D.length]; exact hi)]
    exact hd
  rcases hd with rfl | rfl
  · cases A1 with
    | @list l vs kk1 _ hm D =>
      have hl : h1.IsList l vs.toArray := isList_of N1 hm
      refine wpAny_pyIter_list (s := { s with heap := h1, toks := t1 }) hl ?_
      have hli : l ≠ h1.objs.size := Nat.ne_of_lt (lt1 _ (List.mem_append_right _ hm))
      have W := Walks.list (prog := c.prog) (w := c.w) (A := c.A) ok.hh h1.objs.size l hli vs.toArray
      have hsz : vs.toArray.size = ds.length := by simp [D.length]
      rw [hsz] at W
      refine for_core (s := { s with heap := h1.push _, toks := t1 }) (D := fun i => ds.getD i .none) (J := J) hcs ok (S := ⟨F1.push _, S1.R, fun q hq => ⟨Heap.get?_push_of_some _ (N1 q hq).1, (N1 q hq).2⟩⟩) W
        (fun b hb => by simpa using hb) (fun b hb => ?_) lt1 hIL hI0 (fun i h st => ?_) ⟨⟨_, Heap.get?_push_size _ rfl, rfl, rfl⟩, hl.at fun o e => Heap.get?_push_of_some _ e⟩ (fun s' v i st Q E hq => ?_) (fun i v hi hp nw hs => (hget D hp).mono hs) turn h0 fin
        fun fl h' tk' m' nw pf ω' ρ' S' X f p => kk fl h' tk' m' nw pf ω' ρ' S' (X1.trans X) f p
      · rcases (by simpa using hb : b = h1.objs.size ∨ b = l) with rfl | rfl
        · exact .inl rfl
        · exact .inr ⟨_, hm⟩
      · obtain ⟨⟨o, ho, _⟩, _⟩ := st; exact ⟨o, ho⟩
      · obtain ⟨⟨o, ho, hc, _⟩, _⟩ := st; exact go_any ho hc (.inl rfl) hq
  · cases A1 with
    | @tuple l vs kk1 _ hm D =>
      have hl : IsTup h1 l vs.toArray := isTup_of N1 hm
      refine iter_tuple (s := { s with heap := h1, toks := t1 }) hl ?_
      have hli : l ≠ h1.objs.size := Nat.ne_of_lt (lt1 _ (List.mem_append_right _ hm))
      have W := Walks.tuple (prog := c.prog) (w := c.w) (A := c.A) ok.hh h1.objs.size l hli vs.toArray
      have hsz : vs.toArray.size = ds.length := by simp [D.length]
      rw [hsz] at W
      have hl' : h1.IsTuple l vs.toArray := hl
      refine for_core (s := { s with heap := h1.push _, toks := t1 }) (D := fun i => ds.getD i .none) (J := J) hcs ok (S := ⟨F1.push _, S1.R, fun q hq => ⟨Heap.get?_push_of_some _ (N1 q hq).1, (N1 q hq).2⟩⟩) W
        (fun b hb => by simpa using hb) (fun b hb => ?_) lt1 hIL hI0 (fun i h st => ?_) ⟨⟨_, Heap.get?_push_size _ rfl, rfl, rfl⟩, hl'.at fun o e => Heap.get?_push_of_some _ e⟩ (fun s' v i st Q E hq => ?_) (fun i v hi hp nw hs => (hget D hp).mono hs) turn h0 fin
        fun fl h' tk' m' nw pf ω' ρ' S' X f p => kk fl h' tk' m' nw pf ω' ρ' S' (X1.trans X) f p
      · rcases (by simpa using hb : b = h1.objs.size ∨ b = l) with rfl | rfl
        · exact .inl rfl
        · exact .inr ⟨_, hm⟩
      · obtain ⟨⟨o, ho, _⟩, _⟩ := st; exact ⟨o, ho⟩
      · obtain ⟨⟨o, ho, hc, _⟩, _⟩ := st; exact go_any ho hc (.inr rfl) hq
end
section
variable {sc : Scope} {n : Nat} {ω : Om} {ρ ρ' : Rho} {Φ : PF → Om → Rho → Prop} {Ψ : Dat → Prop} {Θ : Bool → Prop} {x y : Int} {a b : List Nat}

/-! a for over a range -/
theorem rfits {i : Int} (h1 : -9223372036854775808 ≤ i) (h2 : i < 9223372036854775808) : Builtin.Range.rangeFitsLong i = true := by
  unfold Builtin.Range.rangeFitsLong; rw [Bool.and_eq_true]; exact ⟨decide_eq_true (by walk_at "ar"), decide_eq_true (by walk_at "ar")⟩
theorem PS1.forR {target e1 e2 : Expr} {body : List Stmt} {p1 p2 pos : Pos} (hn : nameIs sc (Str.ofString "range") .globalImplicit = true) (hs : ([e1, e2] : List Expr).all noStar = true)
    (h : PE sc n ρ e1 fun d => PE sc n ρ e2 fun e => ∃ x y : Nat, d = .int x ∧ e = .int y ∧ y < 2 ^ 60 ∧ x < 2 ^ 60 ∧ ∃ J : Nat → Rho → Prop, ForJ sc n target body (y - x) (fun i => .int (x + i : Nat)) J Φ ∧ J 0 ρ ∧ ∀ ρ, J (y - x) ρ → Φ .next none ρ)
    (ht : ∃ x p, target = .Name x p) : PS1 sc n none ρ (.For target (.Call (.Name (Str.ofString "range") p1) [e1, e2] [] p2) body [] pos) Φ := by
  intro c s m own news Q E hcs ok S kk
  rw [List.all_cons, List.all_cons, Bool.and_eq_true, Bool.and_eq_true] at hs
  refine wpAny_For (Call_ (Name_function_global ok.kf (by show c.env.scope.names.lookup _ = _; rw [hcs]; exact nameIs_kind hn) (loadB (x := Str.ofString "range") ok S.F (by decide +kernel) PyProof.Rows.boot_range ?_) (nameIs_dbg hn))) (fun _ => rfl)
  refine Pv.callWith_type1 (spliced_more (h c s m own news hcs ok ⟨S.F, S.N, S.R⟩ _ _ fun v1 h1 t1 n1 F1 N1 X1 ⟨d1, A1, q1⟩ => spliced_more (q1 c _ m own n1 hcs ok ⟨F1, N1, S.R.mono X1.sub⟩ _ _ fun v2 h2 t2 n2 F2 N2 X2 ⟨d2, A2, x, y, e1, e2, hy, hx, J, turn, h0, fin⟩ => spliced_none ?_) (starEach_cons hs.2.1)) (starEach_cons hs.1)) (starEach_cons hs.1) ?_
  rotate_left
  · rw [backTo_any]; exact starEach_noStar (by rw [List.all_cons, hs.2.1]; rfl)
  subst e1; subst e2
  have A1' := A1.mono X2.sub
  cases A1'; cases A2
  refine call_range_2 ?_
  refine wpAny_pyIter_range (s := { s with heap := h2.push _, toks := t2 + 1 }) (IsRange.new h2 _ _ _ _ _ _) ?_ ?_
  · have hr : Builtin.Range.rangeSize (x : Int) y 1 = if (x : Int) < y then (y : Int) - x else 0 := rangeSize_one _ _
    have hs : (0 : Int) ≤ Builtin.Range.rangeSize (x : Int) y 1 ∧ Builtin.Range.rangeSize (x : Int) y 1 ≤ y := by rw [hr]; split <;> walk_at "ar"
    unfold Builtin.Range.small
    rw [rfits (by walk_at "ar") (by walk_at "ar"), rfits (by walk_at "ar") (by walk_at "ar"), rfits (by walk_at "ar") (by walk_at "ar"), rfits (by walk_at "ar") (by walk_at "ar"), if_pos (by decide), rfits (by walk_at "ar") (by walk_at "ar")]
    simp
  · have hr : Builtin.Range.rangeSize (x : Int) y 1 = ((y - x : Nat) : Int) := by rw [rangeSize_one]; split <;> walk_at "ar"
    rw [hr]
    generalize hH : h2.push _ = H
    have F3 : Fr c.h₀ c.L H m := hH ▸ F2.push _
    have hHn : News c.h₀ c.L H (own ++ n2) := fun q hq => by subst hH; exact ⟨Heap.get?_push_of_some _ (N2 q hq).1, (N2 q hq).2⟩
    have lt1 : ∀ q ∈ own ++ n2, q.1 < H.objs.size := fun q hq => Heap.lt_size (hHn q hq).1
    have hI0 : c.h₀.get? H.objs.size = Option.none := by
      cases q : c.h₀.get? H.objs.size with
      | none => rfl
      | some o => exact absurd (Heap.lt_size (F3.keep _ _ q)) (Nat.lt_irrefl _)
    have hIL : c.L ≠ H.objs.size := by
      obtain ⟨oL, _, _, hL, _⟩ := F3.ns
      exact Nat.ne_of_lt (Heap.lt_size hL)
    have X := X1.trans X2
    refine for_core (s := { s with heap := H.push _, toks := t2 + 1 }) (own := own) (news := n2) (m := m) (I := H.objs.size) (k := y - x) (D := fun i => .int (x + i : Nat)) (J := J) hcs ok (S := ⟨F3.push _, S.R.mono X.sub, fun q hq => ⟨Heap.get?_push_of_some _ (hHn q hq).1, (hHn q hq).2⟩⟩)
      (Walks.range (prog := c.prog) (w := c.w) (A := c.A) ok.hh H.objs.size (x : Int) 1 (y - x)) (fun b hb => by simpa using hb) (fun b hb => .inl (by simpa using hb)) lt1 hIL hI0 (fun i h st => ⟨_, st⟩) ?_ (fun s' v i st Q E hq => ?_) (fun i v hi hp nw hs => ?_) turn h0 fin
      fun fl h' tk' m' nw pf ω' ρ' S' X' f p => kk fl h' tk' m' nw pf ω' ρ' S' (X.trans X') f p
    · show (H.push _).get? H.objs.size = _
      rw [Heap.get?_push_size _ rfl]
      simp [rawInt]
    · obtain ⟨tx, tp, rfl⟩ := ht; exact wpAny_pure hq
    · obtain ⟨t, rfl⟩ := hp
      have : (x : Int) + (i : Int) * 1 = ((x + i : Nat) : Int) := by walk_at "ar"
      rw [this]; exact .int _ _

/-! methods of a text -/
noncomputable def baseOk : Expr → Bool
  | .Call (.Name ..) [] [] _ => false
  | _ => true
theorem base_ok {o : Expr} {nm : Str} {env : Env} {w : Sem Value} (h : baseOk o = true) : attributeBase o nm env w = w := by
  unfold attributeBase
  split
  · cases h
  · rfl

theorem PE.meth {o e : Expr} {nm : Str} {id : String} {ap cp : Pos} (slot : Slot "str" nm id) (ty : typeOf (.builtin id) = pure (.type "method_descriptor")) (hb : baseOk o = true) (he : noStar e = true) (hl : (ap.endLine == cp.line) = true)
    (h : PE sc n ρ o fun d => ∃ a, d = DS a ∧ PE sc n ρ e fun f => PCall (.builtin id) [DS a, f] Ψ) : PE sc n ρ (.Call (.Attribute o nm ap) [e] [] cp) Ψ := by
  intro c s m own news hc ok S Q E kk
  refine wpAny_Call_method_lateS (prog := c.prog) (w := c.w) (base_ok hb) (by rw [starEach_cons he]; rfl) hl (h c s m own news hc ok S _ _ fun v h1 t1 n1 F1 N1 X1 ⟨d, A1, a, ed, p1⟩ => ?_)
  subst ed
  cases A1 with
  | str _ t =>
    refine ⟨"str", id, PySem.F.plainAttrs_str, slot, ty, typeIs_str _ _ _, (fun _ e => nomatch e), ?_⟩
    rw [starEach_cons he]
    refine callWith_builtin rfl (evalArgs_plain (spliced_cons (p1 c _ m own n1 hc ok (S.next F1 N1 X1) _ _ fun w h2 t2 n2 F2 N2 X2 ⟨f, B2, p2⟩ => spliced_nil ?_)))
    exact p2 n c _ m own n2 [.str (tx a) t, w] ok F2 N2 (.cons (.str _ _) (.cons B2 .nil)) _ _ fun r h3 t3 n3 F3 N3 X3 p3 => kk r h3 t3 n3 F3 N3 ((X1.trans X2).trans X3) p3

noncomputable def lstr (a b : List Nat) : List Nat := a.dropWhile b.contains
noncomputable def rstr (a b : List Nat) : List Nat := (a.reverse.dropWhile b.contains).reverse
theorem dropWhile_take (p : Nat → Bool) : ∀ l : List Nat, l.drop (l.takeWhile p).length = l.dropWhile p
  | [] => rfl
  | c :: l => by
    by_cases h : p c
    · simp [List.takeWhile_cons, List.dropWhile_cons, h, dropWhile_take p l]
    · simp [List.takeWhile_cons, List.dropWhile_cons, h]
theorem lstr_tx (a b : List Nat) : Txt.lstripChars (tx a) (tx b) = tx (lstr a b) := by
  have e : (tx b).cps.contains = b.contains := by funext c; simp [tx]
  unfold Txt.lstripChars
  rw [e, PyProof.Rows.stripBy_eq]
  refine Eq.trans (tx_self _) ?_
  congr 1
  rw [StrLaws.strSub_toList, tx_cps]
  simp only [stripLo, stripHi, tx_cps, tx_length, if_true, Bool.false_eq_true, if_false]
  rw [List.take_of_length_le (by simp), dropWhile_take]; rfl
theorem rstr_tx (a b : List Nat) : Txt.rstripChars (tx a) (tx b) = tx (rstr a b) := by
  have e : (tx b).cps.contains = b.contains := by funext c; simp [tx]
  unfold Txt.rstripChars
  rw [e, PyProof.Rows.stripBy_eq]
  refine Eq.trans (tx_self _) ?_
  congr 1
  rw [StrLaws.strSub_toList, tx_cps]
  simp only [stripLo, stripHi, tx_cps, tx_length, if_true, Bool.false_eq_true, if_false, List.drop_zero, Nat.sub_zero]
  unfold rstr
  have h := dropWhile_take b.contains a.reverse
  rw [← h, List.drop_reverse, List.reverse_reverse]
theorem PCall.lstrip (hl : a.length ≤ 16777216) (h : Ψ (DS (lstr a b))) : PCall (.builtin "str.lstrip") [DS a, DS b] Ψ := by
  intro n c s m own news vs ok F N D Q E kk
  cases D with
  | cons A D =>
    cases D with
    | cons B D => cases D; cases A; cases B; exact SCL.lstripChars (fun _ _ _ => kk _ _ _ _ F N .refl ⟨_, .str _ _, by rw [lstr_tx]; exact h⟩) (by rw [tx_length]; exact hl)
theorem PCall.rstrip (hl : a.length ≤ 16777216) (h : Ψ (DS (rstr a b))) : PCall (.builtin "str.rstrip") [DS a, DS b] Ψ := by
  intro n c s m own news vs ok F N D Q E kk
  cases D with
  | cons A D =>
    cases D with
    | cons B D => cases D; cases A; cases B; exact SCL.rstripChars (fun _ _ _ => kk _ _ _ _ F N .refl ⟨_, .str _ _, by rw [rstr_tx]; exact h⟩) (by rw [tx_length]; exact hl)

theorem join_nil_tx (ls : List (List Nat)) : Txt.join (tx []) (ls.map tx) = tx ls.flatten := by
  have key : ∀ (ls : List (List Nat)) (acc : Array Nat), (ls.map tx).foldl (fun acc p => acc ++ (tx []).cps ++ p.cps) acc = acc ++ ls.flatten.toArray := by
    intro ls
    induction ls with
    | nil => intro acc; simp
    | cons l ls ih => intro acc; rw [List.map_cons, List.foldl_cons, ih]; simp [tx]
  cases ls with
  | nil => rfl
  | cons l ls =>
    show Builtin.Str.glued _ _ = _
    unfold Builtin.Str.glued
    rw [List.map_cons, List.drop_succ_cons, List.drop_zero, List.headD_cons, key]
    simp [tx]
theorem strsAre_of {nw : Led} : ∀ {vs : List Value} {ls : List (List Nat)}, DatAll nw vs (ls.map DS) → StrsAre vs (ls.map tx)
  | [], [], _ => .nil
  | [], l :: ls, D => by cases D
  | v :: vs, [], D => by cases D
  | v :: vs, l :: ls, .cons A D => by cases A; exact .cons _ _ (strsAre_of D)
theorem PCall.join {ls : List (List Nat)} (hl : (ls.map List.length).sum ≤ 16777216) (h : Ψ (DS ls.flatten)) : PCall (.builtin "str.join") [DS [], .list (ls.map DS)] Ψ := by
  intro n c s m own news vs ok F N D Q E kk
  cases D with
  | cons A D =>
    cases D with
    | cons B D =>
      cases D; cases A
      cases B with
      | @list l vs k _ hm D =>
        refine join_list (isList_of N hm) (ys := ls.map tx) (by simpa using strsAre_of D) ?_ fun _ _ => kk _ _ _ _ F N .refl ⟨_, .str _ _, by rw [join_nil_tx]; exact h⟩
        rw [tx_length, List.length_nil, Nat.mul_zero, Nat.add_zero, List.map_map]
        have : (fun (x : Str) => x.length) ∘ tx = List.length := by funext l; exact tx_length l
        rw [this]; exact hl

/-! comparisons, truth -/
theorem PTruth.bool {t : Bool} (h : Θ t) : PTruth (.bool t) Θ := by
  intro n c s m own news u ok F N A Q E kk; cases A
  exact wpAny_truthy_bool (kk _ _ _ _ F N .refl h)
theorem contains_one (a : List Nat) (c : Nat) : Txt.contains (tx a) (tx [c]) = decide (c ∈ a) := by
  have := StrLaws.found_one (tx a) c
  rw [tx_cps] at this
  exact this
theorem PCmp.in1 {k : Nat} (h : Θ (decide (k ∈ b))) : PCmp .In (DS [k]) (DS b) Θ := PCmp.inS (by rw [contains_one]; exact h)
theorem PCmp.notIn1 {k : Nat} (h : Θ (!decide (k ∈ b))) : PCmp .NotIn (DS [k]) (DS b) Θ := PCmp.notInS (by rw [contains_one]; exact h)
theorem intsAre_of {nw : Led} : ∀ {vs : List Value} {ns : List Int}, DatAll nw vs (ns.map Dat.int) → IntsAre vs ns
  | [], [], _ => .nil
  | [], l :: ls, D => by cases D
  | v :: vs, [], D => by cases D
  | v :: vs, l :: ls, .cons A D => by cases A; exact .cons _ _ (intsAre_of D)
theorem PCmp.inT {ns : List Int} (h : Θ (ns.any (· == x))) : PCmp .In (.int x) (.tuple (ns.map Dat.int)) Θ := by
  intro n c s m own news u v ok F N A B Q E kk
  cases A
  cases B with
  | @tuple l vs k _ hm D => exact in_tuple_ints (isTup_of N hm) (by simpa using intsAre_of D) (kk _ _ _ _ F N .refl ⟨_, rfl, h⟩)
noncomputable def isNoneD : Dat → Bool
  | .none => true
  | _ => false
theorem datIn_none {nw : Led} {v : Value} {d : Dat} (h : DatIn nw v d) : (v == .none) = isNoneD d := by cases h <;> rfl
theorem PCmp.isNone {d : Dat} (h : Θ (isNoneD d)) : PCmp .Is d .none Θ := by
  intro n c s m own news u v ok F N A B Q E kk
  cases B
  exact is_none_gen (kk _ _ _ _ F N .refl ⟨_, rfl, by rw [datIn_none A]; exact h⟩)
theorem PCmp.isNotNone {d : Dat} (h : Θ (!(isNoneD d))) : PCmp .IsNot d .none Θ := by
  intro n c s m own news u v ok F N A B Q E kk
  cases B
  exact isnot_none_gen (kk _ _ _ _ F N .refl ⟨_, rfl, by rw [datIn_none A]; exact h⟩)
open Classical in
theorem PCmp.neL {ds es : List Dat} (h1 : ∀ d ∈ ds, kqdOk 8 d = true) (h2 : ∀ d ∈ es, kqdOk 8 d = true) (h : Θ (!decide (ds = es))) : PCmp .NotEq (.list ds) (.list es) Θ := by
  intro n c s m own news u v ok F N A B Q E kk
  cases A with
  | @list l vs k _ hm D =>
    cases B with
    | @list l2 vs2 k2 _ hm2 D2 =>
      exact kqd_ne (news := own ++ news) N (List.mem_append_right _ hm) rfl rfl D (fun _ h => List.mem_append_right _ h) (List.mem_append_right _ hm2) rfl rfl D2 (fun _ h => List.mem_append_right _ h) h1 h2 (by have := ok.unr; unfold cLine at *; walk_at "ar") (kk _ _ _ _ F N .refl ⟨_, rfl, h⟩)
end
theorem lk_here {x : Str} {d : Dat} {ρ : Rho} : List.lookup x ((x, d) :: ρ) = some d := by simp
theorem lk_there {x y : Str} {d e : Dat} {ρ : Rho} (h : (x == y) = false) (h2 : List.lookup x ρ = some e) : List.lookup x ((y, d) :: ρ) = some e := by rw [List.lookup_cons, h]; exact h2

section
variable {sc : Scope} {n : Nat} {ω : Om} {ρ ρ' : Rho} {Φ : PF → Om → Rho → Prop} {Ψ : Dat → Prop} {Θ : Bool → Prop}
noncomputable def Then (sc : Scope) (n : Nat) (rest : List Stmt) (Φ : PF → Om → Rho → Prop) (pf : PF) (ω : Om) (ρ : Rho) : Prop := match pf with
  | .next => PS sc n ω ρ rest Φ
  | f => Φ f ω ρ
theorem PS.seq {st : Stmt} {rest : List Stmt} (h : PS1 sc n ω ρ st (Then sc n rest Φ)) : PS sc n ω ρ (st :: rest) Φ := PS.cons (h.mono fun f w r p => by cases f <;> exact p)
theorem Then.next {rest : List Stmt} (h : PS sc n ω ρ rest Φ) : Then sc n rest Φ .next ω ρ := h
theorem Then.ret {rest : List Stmt} {d : Dat} (h : Φ (.ret d) ω ρ) : Then sc n rest Φ (.ret d) ω ρ := h
theorem Then.brk {rest : List Stmt} (h : Φ .brk ω ρ) : Then sc n rest Φ .brk ω ρ := h
theorem Ends.ret {d : Dat} (h : Ψ d) : Ends Ψ (.ret d) ω ρ := h
theorem Ends.next (h : Ψ .none) : Ends Ψ .next ω ρ := h

/-- what a turn of a while hands on -/
noncomputable def Turn (k : Nat) (I : Nat → Om → Rho → Prop) (Φ : PF → Om → Rho → Prop) (pf : PF) (ω : Om) (ρ : Rho) : Prop := match pf with
  | .next | .cont => ∃ k', k' < k ∧ I k' ω ρ
  | .brk => Φ .next ω ρ
  | .ret d => Φ (.ret d) ω ρ
theorem PS1.loop {test : Expr} {body orelse : List Stmt} {pos : Pos} (I : Nat → Om → Rho → Prop) (k : Nat) (h : I k ω ρ)
    (turn : ∀ k ω ρ, I k ω ρ → PT sc n ρ test fun b => if b = true then PS sc n ω ρ body (Turn k I Φ) else PS sc n ω ρ orelse Φ) : PS1 sc n ω ρ (.While test body orelse pos) Φ :=
  PS1.while I k (fun k ω ρ hI => (turn k ω ρ hI).mono fun b hb => by
    cases b
    · exact hb
    · simp only [↓reduceIte] at hb ⊢
      exact hb.mono fun f w r p => by cases f <;> exact p) h
theorem Turn.next {k : Nat} {I : Nat → Om → Rho → Prop} (k' : Nat) (hk : k' < k) (h : I k' ω ρ) : Turn k I Φ .next ω ρ := ⟨k', hk, h⟩
theorem Turn.ret {k : Nat} {I : Nat → Om → Rho → Prop} {d : Dat} (h : Φ (.ret d) ω ρ) : Turn k I Φ (.ret d) ω ρ := h

noncomputable def TurnF (i : Nat) (J : Nat → Rho → Prop) (Φ : PF → Om → Rho → Prop) (pf : PF) (ω : Om) (ρ : Rho) : Prop := match pf with
  | .next | .cont => ω = none ∧ J (i + 1) ρ
  | .brk => Φ .next ω ρ
  | .ret d => Φ (.ret d) ω ρ
theorem ForJ.mk {target : Expr} {body : List Stmt} {k : Nat} {D : Nat → Dat} {J : Nat → Rho → Prop} (h : ∀ i ρ, i < k → J i ρ → PA sc n none ρ target (D i) fun ρ' => PS sc n none ρ' body (TurnF i J Φ)) : ForJ sc n target body k D J Φ := by
  intro i ρ hi hJ c s m own news v Q E hcs ok S A kk
  exact h i ρ hi hJ c s m own news v Q E hcs ok S A fun h' tk' m' ρ' S' p => kk h' tk' m' ρ' S' (p.mono fun f w r q => by cases f <;> exact q)
theorem TurnF.next {i : Nat} {J : Nat → Rho → Prop} (h : J (i + 1) ρ) : TurnF i J Φ .next none ρ := ⟨rfl, h⟩
theorem TurnF.ret {i : Nat} {J : Nat → Rho → Prop} {d : Dat} (h : Φ (.ret d) ω ρ) : TurnF i J Φ (.ret d) ω ρ := h

theorem ite_of {c : Prop} [Decidable c] {A B : Prop} (h1 : c → A) (h2 : ¬ c → B) : if c then A else B := by by_cases h : c <;> simp [h, h1, h2]
/-- the two ways of a test -/
theorem ite_dec {p : Prop} [Decidable p] {A B : Prop} (h1 : p → A) (h2 : ¬ p → B) : if decide p = true then A else B := by by_cases h : p <;> simp [h, h1, h2]
theorem ite_ndec {p : Prop} [Decidable p] {A B : Prop} (h1 : ¬ p → A) (h2 : p → B) : if (!decide p) = true then A else B := by by_cases h : p <;> simp [h, h1, h2]
theorem ite_eqI {x y : Int} {A B : Prop} (h1 : x = y → A) (h2 : x ≠ y → B) : if (x == y) = true then A else B := by by_cases h : x = y <;> simp [h, h1, h2]
theorem ite_neI {x y : Int} {A B : Prop} (h1 : x ≠ y → A) (h2 : x = y → B) : if (x != y) = true then A else B := by by_cases h : x = y <;> simp [h, h1, h2]
theorem ite_eqS {x y : List Nat} {A B : Prop} (h1 : x = y → A) (h2 : x ≠ y → B) : if (x == y) = true then A else B := by by_cases h : x = y <;> simp [h, h1, h2]
theorem ite_neS {x y : List Nat} {A B : Prop} (h1 : x ≠ y → A) (h2 : x = y → B) : if (x != y) = true then A else B := by by_cases h : x = y <;> simp [h, h1, h2]
theorem ite_t {A B : Prop} (h : A) : if true = true then A else B := by simpa using h
theorem ite_f {A B : Prop} (h : B) : if false = true then A else B := by simpa using h
theorem ite_b {t : Bool} {A B : Prop} (h1 : t = true → A) (h2 : t = false → B) : if t = true then A else B := by cases t <;> simp [h1, h2]
theorem ite_nb {t : Bool} {A B : Prop} (h1 : t = false → A) (h2 : t = true → B) : if (!t) = true then A else B := by cases t <;> simp [h1, h2]

/-- the ways of a statement meet behind it -/
noncomputable def Join (P : Om → Rho → Prop) (Φ : PF → Om → Rho → Prop) (pf : PF) (ω : Om) (ρ : Rho) : Prop := match pf with
  | .next => P ω ρ
  | f => Φ f ω ρ
theorem PS.seqJoin {st : Stmt} {rest : List Stmt} (P : Om → Rho → Prop) (h : PS1 sc n ω ρ st (Join P Φ)) (hr : ∀ ω ρ, P ω ρ → PS sc n ω ρ rest Φ) : PS sc n ω ρ (st :: rest) Φ :=
  PS.cons (h.mono fun f w r p => by cases f <;> first | exact hr _ _ p | exact p)
theorem Join.next {P : Om → Rho → Prop} (h : P ω ρ) : Join P Φ .next ω ρ := h
theorem Join.ret {P : Om → Rho → Prop} {d : Dat} (h : Φ (.ret d) ω ρ) : Join P Φ (.ret d) ω ρ := h
theorem ps_ret_end {e : Expr} {pos : Pos} {rest : List Stmt} (h : PE sc n ρ e fun d => Φ (.ret d) ω ρ) : PS sc n ω ρ (.Return (some e) pos :: rest) Φ := PS.seq (PS1.ret (h.mono fun _ p => p))
end
/-! bits of whole numbers -/
theorem bitAnd_nat (a b : Nat) : Builtin.bitAnd a b = ((a &&& b : Nat) : Int) := by
  unfold Builtin.bitAnd
  have h1 : decide (0 ≤ (a : Int)) = true := by simp
  have h2 : decide (0 ≤ (b : Int)) = true := by simp
  rw [h1, h2]; rfl
theorem bitAnd_mask (a k : Nat) : Builtin.bitAnd a ((2 ^ k - 1 : Nat) : Int) = ((a % 2 ^ k : Nat) : Int) := by rw [bitAnd_nat, Nat.and_two_pow_sub_one_eq_mod]
theorem and_apart (a b k : Nat) (h : b < 2 ^ k) : (a * 2 ^ k) &&& b = 0 := by
  apply Nat.eq_of_testBit_eq
  intro i
  rw [Nat.testBit_and, Nat.zero_testBit, Nat.mul_comm, Nat.testBit_two_pow_mul]
  by_cases hi : k ≤ i
  · rw [Nat.testBit_lt_two_pow (Nat.lt_of_lt_of_le h (Nat.pow_le_pow_right (by decide) hi))]; simp
  · simp [hi]
theorem bitOr_apart (a b k : Nat) (h : b < 2 ^ k) : Builtin.bitOr ((a * 2 ^ k : Nat) : Int) b = ((a * 2 ^ k + b : Nat) : Int) := by
  rw [bitOr_and, bitAnd_nat, and_apart a b k h]; push_cast; walk_at "ar"
theorem bitXor_apart (a b k : Nat) (h : b < 2 ^ k) : Builtin.bitXor b ((a * 2 ^ k : Nat) : Int) = ((a * 2 ^ k + b : Nat) : Int) := by
  rw [bitXor_and, bitAnd_comm, bitAnd_nat, and_apart a b k h]; push_cast; walk_at "ar"
theorem fdiv_nat (a b : Nat) : (a : Int).fdiv (b : Int) = ((a / b : Nat) : Int) := by
  rw [Int.fdiv_eq_ediv_of_nonneg _ (by walk_at "ar")]; rfl
theorem fmod_nat (a b : Nat) : (a : Int).fmod (b : Int) = ((a % b : Nat) : Int) := by
  rw [Int.fmod_eq_emod_of_nonneg _ (by walk_at "ar")]; rfl

/-- how many bits a number has -/
noncomputable def bl (n : Nat) : Nat := if n = 0 then 0 else n.log2 + 1
theorem bl_lt (n : Nat) : n < 2 ^ bl n := by
  unfold bl; split
  · subst_vars; decide
  · exact Nat.lt_log2_self
theorem bl_le {n : Nat} (h : n ≠ 0) : 2 ^ (bl n - 1) ≤ n := by
  unfold bl; rw [if_neg h]; exact Nat.log2_self_le h
theorem bl_unique {n k : Nat} (h1 : n < 2 ^ k) (h2 : k = 0 ∨ 2 ^ (k - 1) ≤ n) : bl n = k := by
  have a := bl_lt n
  rcases h2 with rfl | h2
  · have : n = 0 := by simpa using h1
    subst this; rfl
  · have hn : n ≠ 0 := by
      intro e; subst e
      have := Nat.two_pow_pos (k - 1)
      walk_at "ar"
    have b := bl_le hn
    have c1 : bl n - 1 < k := by
      apply Decidable.byContradiction; intro hh
      have := Nat.pow_le_pow_right (show 0 < 2 by decide) (Nat.not_lt.mp hh)
      walk_at "ar"
    have c2 : k - 1 < bl n := by
      apply Decidable.byContradiction; intro hh
      have := Nat.pow_le_pow_right (show 0 < 2 by decide) (Nat.not_lt.mp hh)
      walk_at "ar"
    have : 0 < bl n := by unfold bl; rw [if_neg hn]; walk_at "ar"
    walk_at "ar"
theorem bl_shr {n k : Nat} (h : 2 ^ k ≤ n) : bl n = k + bl (n / 2 ^ k) := by
  have hp := Nat.two_pow_pos k
  have hn : n / 2 ^ k ≠ 0 := by
    have := (Nat.le_div_iff_mul_le hp).mpr (by walk_at "ar" : 1 * 2 ^ k ≤ n)
    walk_at "ar"
  apply bl_unique
  · rw [Nat.pow_add, Nat.mul_comm]
    exact (Nat.div_lt_iff_lt_mul hp).mp (bl_lt _)
  · right
    have h1 := bl_le hn
    have h0 : 0 < bl (n / 2 ^ k) := by unfold bl; rw [if_neg hn]; walk_at "ar"
    have e : k + bl (n / 2 ^ k) - 1 = (bl (n / 2 ^ k) - 1) + k := by walk_at "ar"
    rw [e, Nat.pow_add]
    exact (Nat.le_div_iff_mul_le hp).mp h1
theorem bl_small {n : Nat} (h : n < 2) : bl n = n := by
  match n, h with
  | 0, _ => rfl
  | 1, _ => decide

/-- sizes that the model bears -/
noncomputable def Sm (x : Nat) : Prop := x < 2 ^ 8000
theorem Sm.bits {x : Nat} (h : Sm x) : Builtin.Int.intBits (x : Int) ≤ 8000 := intBits_le_iff.mpr h
theorem Sm.mulOk {x y : Nat} (h1 : Sm x) (h2 : Sm y) : IntMulOk (x : Int) (y : Int) := .of_bits (Nat.le_trans h1.bits (by decide)) (Nat.le_trans h2.bits (by decide))
theorem Sm.log {x : Nat} (h : Sm x) : (x : Int).natAbs.log2 < 9000 := by
  by_cases h0 : x = 0
  · subst h0; decide +kernel
  · have : x.log2 < 8000 := (Nat.log2_lt h0).mpr h
    show x.log2 < 9000; walk_at "ar"
theorem Sm.py {x : Int} {y : Nat} (h : Sm y) : Builtin.divisionGoesByPylong x (y : Int) = false := PyProof.noPylong_of_log2 h.log
theorem Sm.of_le {x b : Nat} (h : x ≤ b) (hb : Sm b) : Sm x := Nat.lt_of_le_of_lt h hb
theorem PE.intN {sc : Scope} {n : Nat} {ρ : Rho} {m : Nat} {k : Nat} {pos : Pos} {Ψ : Dat → Prop} (h : Ψ (.int ((OfNat.ofNat m : Nat) : Int))) : PE sc n ρ (.Constant (.int (OfNat.ofNat m : Int)) k pos) Ψ := PE.int h
theorem PBin.addN {x y : Nat} {Ψ : Dat → Prop} (h : Ψ (.int ((x + y : Nat) : Int))) : PBin .Add (.int x) (.int y) Ψ := PBin.add (by rw [← Int.natCast_add]; exact h)
theorem PBin.mulN {x y : Nat} {Ψ : Dat → Prop} (h1 : Sm x) (h2 : Sm y) (h : Ψ (.int ((x * y : Nat) : Int))) : PBin .Mult (.int x) (.int y) Ψ := PBin.mul (h1.mulOk h2) (by rw [← Int.natCast_mul]; exact h)
theorem PBin.fdivN {x y : Nat} {Ψ : Dat → Prop} (hy : 0 < y) (h2 : Sm y) (h : Ψ (.int ((x / y : Nat) : Int))) : PBin .FloorDiv (.int x) (.int y) Ψ := PBin.fdiv (by walk_at "ar") h2.py (by rw [fdiv_nat]; exact h)
theorem PBin.modN {x y : Nat} {Ψ : Dat → Prop} (hy : 0 < y) (h : Ψ (.int ((x % y : Nat) : Int))) : PBin .Mod (.int x) (.int y) Ψ := PBin.mod (by walk_at "ar") (by rw [fmod_nat]; exact h)
theorem PBin.shlN {x y : Nat} {Ψ : Dat → Prop} (h1 : Sm x) (hy : y ≤ 100000) (h : Ψ (.int ((x * 2 ^ y : Nat) : Int))) : PBin .LShift (.int x) (.int y) Ψ := PBin.shl (by walk_at "ar") (by have := h1.bits; walk_at "ar") (by
  have e : (x : Int) * 2 ^ ((y : Int)).toNat = ((x * 2 ^ y : Nat) : Int) := by rw [Int.toNat_natCast, Int.natCast_mul, Int.natCast_pow]; rfl
  rw [e]; exact h)
theorem PBin.shrN {x y : Nat} {Ψ : Dat → Prop} (h : Ψ (.int ((x / 2 ^ y : Nat) : Int))) : PBin .RShift (.int x) (.int y) Ψ := PBin.shr (by walk_at "ar") (by
  have e : (x : Int).fdiv (2 ^ ((y : Int)).toNat) = ((x / 2 ^ y : Nat) : Int) := by rw [Int.toNat_natCast, ← fdiv_nat, Int.natCast_pow]; rfl
  rw [e]; exact h)
theorem PBin.powN {x y : Nat} {Ψ : Dat → Prop} (h1 : x < 2 ^ 64) (hy : y ≤ 100000) (h : Ψ (.int ((x ^ y : Nat) : Int))) : PBin .Pow (.int x) (.int y) Ψ := PBin.pow (by walk_at "ar") (by
  have : Builtin.Int.intBits (x : Int) ≤ 64 := intBits_le_iff.mpr (by simpa using h1)
  have h2 : (Builtin.Int.intBits (x : Int) : Int) * (y : Int) ≤ 64 * 100000 := by
    rw [← Int.natCast_mul]
    have := Nat.mul_le_mul this hy
    walk_at "ar"
  walk_at "ar") (by
  have e : (x : Int) ^ ((y : Int)).toNat = ((x ^ y : Nat) : Int) := by rw [Int.toNat_natCast, Int.natCast_pow]
  rw [e]; exact h)

theorem PBin.subN {x y : Nat} {Ψ : Dat → Prop} (hy : y ≤ x) (h : Ψ (.int ((x - y : Nat) : Int))) : PBin .Sub (.int x) (.int y) Ψ := PBin.sub (by rw [← Int.ofNat_sub hy]; exact h)
theorem PBin.andN {x k : Nat} {Ψ : Dat → Prop} (h : Ψ (.int ((x % 2 ^ k : Nat) : Int))) : PBin .BitAnd (.int x) (.int ((2 ^ k - 1 : Nat) : Int)) Ψ := PBin.and (by rw [bitAnd_mask]; exact h)
theorem PBin.orN {x k : Nat} {Ψ : Dat → Prop} (hx : x < 2 ^ k) (h : Ψ (.int ((x + 2 ^ k : Nat) : Int))) : PBin .BitOr (.int x) (.int ((2 ^ k : Nat) : Int)) Ψ := PBin.or (by
  have := bitOr_apart 1 x k hx
  rw [bitOr_comm, Nat.one_mul] at this
  rw [this, Nat.add_comm]; exact h)
theorem PBin.orS {x y k : Nat} {Ψ : Dat → Prop} (hy : y < 2 ^ k) (h : Ψ (.int ((x * 2 ^ k + y : Nat) : Int))) : PBin .BitOr (.int ((x * 2 ^ k : Nat) : Int)) (.int y) Ψ := PBin.or (by rw [bitOr_apart x y k hy]; exact h)
theorem PBin.xorN {x k : Nat} {Ψ : Dat → Prop} (hx : x < 2 ^ k) (h : Ψ (.int ((x + 2 ^ k : Nat) : Int))) : PBin .BitXor (.int x) (.int ((2 ^ k : Nat) : Int)) Ψ := PBin.xor (by
  have := bitXor_apart 1 x k hx
  rw [Nat.one_mul] at this
  rw [this, Nat.add_comm]; exact h)
theorem beqN (x y : Nat) : ((x : Int) == (y : Int)) = (x == y) := by
  by_cases h : x = y
  · subst h; simp
  · have h' : (x : Int) ≠ y := by walk_at "ar"
    rw [beq_eq_false_iff_ne.mpr h, beq_eq_false_iff_ne.mpr h']
theorem decN {p q : Prop} [Decidable p] [Decidable q] (h : p ↔ q) : decide p = decide q := by simp [h]
section
variable {x y : Nat} {Θ : Bool → Prop}
theorem PCmp.eqN (h : Θ (x == y)) : PCmp .Eq (.int x) (.int y) Θ := PCmp.eqI (by rw [beqN]; exact h)
theorem PCmp.neN (h : Θ (x != y)) : PCmp .NotEq (.int x) (.int y) Θ := PCmp.neI (by
  have : ((x : Int) != (y : Int)) = (x != y) := by simp only [bne, beqN]
  rw [this]; exact h)
theorem PCmp.ltN (h : Θ (decide (x < y))) : PCmp .Lt (.int x) (.int y) Θ := PCmp.ltI (by rw [decN Int.ofNat_lt]; exact h)
theorem PCmp.leN (h : Θ (decide (x ≤ y))) : PCmp .LtE (.int x) (.int y) Θ := PCmp.leI (by rw [decN Int.ofNat_le]; exact h)
theorem PCmp.gtN (h : Θ (decide (y < x))) : PCmp .Gt (.int x) (.int y) Θ := PCmp.gtI (by rw [decN Int.ofNat_lt]; exact h)
theorem PCmp.geN (h : Θ (decide (y ≤ x))) : PCmp .GtE (.int x) (.int y) Θ := PCmp.geI (by rw [decN Int.ofNat_le]; exact h)
theorem ite_eqN {A B : Prop} (h1 : x = y → A) (h2 : x ≠ y → B) : if (x == y) = true then A else B := by by_cases h : x = y <;> simp [h, h1, h2]
theorem ite_neN {A B : Prop} (h1 : x ≠ y → A) (h2 : x = y → B) : if (x != y) = true then A else B := by by_cases h : x = y <;> simp [h, h1, h2]
end

/-! dbits as plain functions -/
noncomputable def INFN : Nat := 2047 * 2 ^ 52
noncomputable def NANN : Nat := 32760 * 2 ^ 48
noncomputable def partsF (b : Nat) : Nat × Nat × Int :=
  if b / 2 ^ 52 % 2 ^ 11 = 0 then (b / 2 ^ 63, b % 2 ^ 52, -1074) else (b / 2 ^ 63, b % 2 ^ 52 + 2 ^ 52, ((b / 2 ^ 52 % 2 ^ 11 : Nat) : Int) - 1075)
noncomputable def quotF (t d : Nat) (p : Int) : Nat × Nat × Nat :=
  if 0 ≤ p then (t / (d * 2 ^ p.toNat), t % (d * 2 ^ p.toNat), d * 2 ^ p.toNat) else (t * 2 ^ (-p).toNat / d, t * 2 ^ (-p).toNat % d, d)
noncomputable def asmF (sg w : Nat) (p : Int) : Nat :=
  let w' := if w = 2 ^ 53 then 2 ^ 52 else w
  let p' := if w = 2 ^ 53 then p + 1 else p
  if w' < 2 ^ 52 then sg * 2 ^ 63 + w'
  else if 2047 ≤ p' + 1075 then sg * 2 ^ 63 + INFN
  else sg * 2 ^ 63 + (p' + 1075).toNat * 2 ^ 52 + (w' - 2 ^ 52)
noncomputable def p0F (t d : Nat) : Int := max ((bl t : Int) - bl d - 53) (-1074)
noncomputable def p1F (t d : Nat) : Int := if 2 ^ 53 ≤ (quotF t d (p0F t d)).1 then p0F t d + 1 else p0F t d
noncomputable def upF (q : Nat × Nat × Nat) : Nat := if 2 * q.2.1 > q.2.2 ∨ (2 * q.2.1 = q.2.2 ∧ q.1 % 2 = 1) then q.1 + 1 else q.1
noncomputable def rrF (sg t d : Nat) : Nat := if t = 0 then sg * 2 ^ 63 else asmF sg (upF (quotF t d (p1F t d))) (p1F t d)
theorem gc_SIGN_BIT : valC (Str.ofString "SIGN_BIT") = some (.int ((2 ^ 63 : Nat) : Int)) := by rfl
theorem gc_FRACTION_BITS : valC (Str.ofString "FRACTION_BITS") = some (.int ((52 : Nat) : Int)) := by rfl
theorem gc_FRACTION_MASK : valC (Str.ofString "FRACTION_MASK") = some (.int ((2 ^ 52 - 1 : Nat) : Int)) := by rfl
theorem gc_HIDDEN_BIT_dbits : valC (Str.ofString "HIDDEN_BIT_dbits") = some (.int ((2 ^ 52 : Nat) : Int)) := by rfl
theorem gc_EXPONENT_MASK : valC (Str.ofString "EXPONENT_MASK") = some (.int ((2 ^ 11 - 1 : Nat) : Int)) := by rfl
theorem gc_EXPONENT_SHIFT : valC (Str.ofString "EXPONENT_SHIFT") = some (.int ((1075 : Nat) : Int)) := by rfl
theorem gc_LEAST_POWER_dbits : valC (Str.ofString "LEAST_POWER_dbits") = some (.int (-1074)) := by rfl
theorem gc_ZERO : valC (Str.ofString "ZERO") = some (.int ((0 : Nat) : Int)) := by rfl
theorem gc_NEG_ZERO : valC (Str.ofString "NEG_ZERO") = some (.int ((2 ^ 63 : Nat) : Int)) := by rfl
theorem gc_INF : valC (Str.ofString "INF") = some (.int ((INFN : Nat) : Int)) := by rfl
theorem gc_NAN : valC (Str.ofString "NAN") = some (.int ((NANN : Nat) : Int)) := by rfl
theorem gc_LEAST_POWER_numshow : valC (Str.ofString "LEAST_POWER_numshow") = some (.int (-1074)) := by rfl
theorem gc_HIDDEN_BIT_numshow : valC (Str.ofString "HIDDEN_BIT_numshow") = some (.int ((2 ^ 52 : Nat) : Int)) := by rfl
theorem gc_FARTHEST : valC (Str.ofString "FARTHEST") = some (.int ((400 : Nat) : Int)) := by rfl
theorem gc_law_none : valC (Str.ofString "_law_none") = some (.int ((NANN : Nat) : Int)) := by rfl
theorem gc_law_endless : valC (Str.ofString "_law_endless") = some (.int ((INFN : Nat) : Int)) := by rfl
noncomputable def BLANKSL : List Nat := [9, 10, 11, 12, 13, 32, 160, 5760, 6158, 8192, 8193, 8194, 8195, 8196, 8197, 8198, 8199, 8200, 8201, 8202]
noncomputable def MOREL : List Nat := [8232, 8233, 8239, 8287, 12288, 65279]
noncomputable def ENDLESSL : List Nat := [73, 110, 102, 105, 110, 105, 116, 121]
theorem gc_BLANKS : valC (Str.ofString "BLANKS") = some (.str (tx BLANKSL)) := by rfl
theorem gc_MORE_BLANKS : valC (Str.ofString "MORE_BLANKS") = some (.str (tx MOREL)) := by rfl
theorem gc_ENDLESS : valC (Str.ofString "ENDLESS") = some (.str (tx ENDLESSL)) := by rfl
noncomputable def enc (s : Str) : Nat := s.cps.toList.foldl (fun a c => a * 65536 + c + 1) 0
noncomputable def defName? : Stmt → Option Str
  | .FunctionDef n .. => some n
  | _ => none
noncomputable def namedBy (name : Str) (st : Stmt) : Bool := match st with
  | .FunctionDef n .. => n == name
  | _ => false
theorem namedBy_iff {name : Str} {st : Stmt} : namedBy name st = true ↔ defName? st = some name := by
  cases st <;> simp [namedBy, defName?]
theorem filter_none {name : Str} : ∀ (l : List Stmt), enc name ∉ (l.filterMap defName?).map enc → l.filter (namedBy name) = []
  | [], _ => rfl
  | st :: l, h => by
    have hl : enc name ∉ (l.filterMap defName?).map enc := by
      intro hh; apply h
      rw [List.filterMap_cons]; split
      · exact hh
      · exact .tail _ hh
    have hst : namedBy name st = false := by
      cases hq : namedBy name st with
      | false => rfl
      | true =>
        have := namedBy_iff.mp hq
        exfalso; apply h
        rw [List.filterMap_cons, this]; exact .head _
    rw [List.filter_cons, if_neg (by rw [hst]; decide)]
    exact filter_none l hl
theorem filter_unique {name : Str} {st : Stmt} (hn : defName? st = some name) : ∀ (l : List Stmt) (k : Nat), l[k]? = some st → ((l.filterMap defName?).map enc).Nodup → l.filter (namedBy name) = [st]
  | [], k, h, _ => by simp at h
  | s :: l, 0, h, hd => by
    have : s = st := by simpa using h
    subst this
    rw [List.filterMap_cons, hn] at hd
    rw [List.filter_cons, if_pos (namedBy_iff.mpr hn)]
    congr 1
    exact filter_none l (List.nodup_cons.mp hd).1
  | s :: l, k + 1, h, hd => by
    have h' : l[k]? = some st := by simpa using h
    have hmem : enc name ∈ (l.filterMap defName?).map enc := List.mem_map_of_mem (List.mem_filterMap.mpr ⟨st, List.mem_of_getElem? h', hn⟩)
    have hs : namedBy name s = false := by
      cases hq : namedBy name s with
      | false => rfl
      | true =>
        have := namedBy_iff.mp hq
        rw [List.filterMap_cons, this] at hd
        exact absurd hmem (List.nodup_cons.mp hd).1
    rw [List.filter_cons, if_neg (by rw [hs]; decide)]
    refine filter_unique hn l k h' ?_
    rw [List.filterMap_cons] at hd
    split at hd
    · exact hd
    · exact (List.nodup_cons.mp hd).2
noncomputable def nodupB : List Nat → Bool
  | [] => true
  | x :: l => l.all (fun y => !(Nat.beq x y)) && nodupB l
theorem nodup_of : ∀ {l : List Nat}, nodupB l = true → l.Nodup
  | [], _ => .nil
  | x :: l, h => by
    rw [nodupB, Bool.and_eq_true] at h
    refine List.nodup_cons.mpr ⟨fun hx => ?_, nodup_of h.2⟩
    have := List.all_eq_true.mp h.1 x hx
    rw [Nat.beq_refl] at this; simp at this
theorem names_once : ((pw.main.body.filterMap defName?).map enc).Nodup := nodup_of (by decide +kernel)
theorem mem_rec {k : Nat} {f : Str} {params : Arguments} {body : List Stmt} {scope : Scope} {b : Str} {pos : Pos} (hst : pw.main.body[k]? = some (.FunctionDef f params body [] Option.none [] scope Option.none b pos))
    (hp : params.defaults = [] ∧ params.kwonlyargs = [] ∧ params.kw_defaults = []) : (⟨f, params, body, scope, pos⟩ : DefRec) ∈ recsOf pw := by
  refine mem_recs hst ?_ hp
  have h := filter_unique (name := f) rfl pw.main.body k hst names_once
  have e : (match List.filter (namedBy f) pw.main.body with | [.FunctionDef _ args body [] _ [] scope _ _ _] => some (args, body, scope) | _ => Option.none) = some (params, body, scope) := by rw [h]
  exact e
/-! arguments by their number -/
theorem len0 {vs : List Value} (h : vs.length = 0) : vs = [] := List.length_eq_zero_iff.mp h
theorem len_succ {n : Nat} {vs : List Value} (h : vs.length = n + 1) : ∃ a ws, vs = a :: ws ∧ ws.length = n := by
  cases vs with
  | nil => cases h
  | cons a ws => exact ⟨a, ws, rfl, Nat.succ.inj h⟩
theorem len1 {vs : List Value} (h : vs.length = 1) : ∃ a, vs = [a] := by
  obtain ⟨a, ws, rfl, h'⟩ := len_succ h
  exact ⟨a, by rw [len0 h']⟩
theorem len2 {vs : List Value} (h : vs.length = 2) : ∃ a b, vs = [a, b] := by
  obtain ⟨a, ws, rfl, h'⟩ := len_succ h
  obtain ⟨b, rfl⟩ := len1 h'
  exact ⟨a, b, rfl⟩
theorem len3 {vs : List Value} (h : vs.length = 3) : ∃ a b c, vs = [a, b, c] := by
  obtain ⟨a, ws, rfl, h'⟩ := len_succ h
  obtain ⟨b, c, rfl⟩ := len2 h'
  exact ⟨a, b, c, rfl⟩
theorem len4 {vs : List Value} (h : vs.length = 4) : ∃ a b c d, vs = [a, b, c, d] := by
  obtain ⟨a, ws, rfl, h'⟩ := len_succ h
  obtain ⟨b, c, d, rfl⟩ := len3 h'
  exact ⟨a, b, c, d, rfl⟩
theorem len5 {vs : List Value} (h : vs.length = 5) : ∃ a b c d e, vs = [a, b, c, d, e] := by
  obtain ⟨a, ws, rfl, h'⟩ := len_succ h
  obtain ⟨b, c, d, e, rfl⟩ := len4 h'
  exact ⟨a, b, c, d, e, rfl⟩
theorem dx_width : ∃ d ∈ recsOf pw, d.name = Str.ofString "width" := ⟨_, mem_rec (k := 12) rfl ⟨rfl, rfl, rfl⟩, rfl⟩
theorem dx_pack : ∃ d ∈ recsOf pw, d.name = Str.ofString "pack" := ⟨_, mem_rec (k := 13) rfl ⟨rfl, rfl, rfl⟩, rfl⟩
theorem dx_is_negative : ∃ d ∈ recsOf pw, d.name = Str.ofString "is_negative" := ⟨_, mem_rec (k := 14) rfl ⟨rfl, rfl, rfl⟩, rfl⟩
theorem dx_is_nan : ∃ d ∈ recsOf pw, d.name = Str.ofString "is_nan" := ⟨_, mem_rec (k := 15) rfl ⟨rfl, rfl, rfl⟩, rfl⟩
theorem dx_is_inf : ∃ d ∈ recsOf pw, d.name = Str.ofString "is_inf" := ⟨_, mem_rec (k := 16) rfl ⟨rfl, rfl, rfl⟩, rfl⟩
theorem dx_is_zero : ∃ d ∈ recsOf pw, d.name = Str.ofString "is_zero" := ⟨_, mem_rec (k := 17) rfl ⟨rfl, rfl, rfl⟩, rfl⟩
theorem dx_signed : ∃ d ∈ recsOf pw, d.name = Str.ofString "signed" := ⟨_, mem_rec (k := 18) rfl ⟨rfl, rfl, rfl⟩, rfl⟩
theorem dx_parts : ∃ d ∈ recsOf pw, d.name = Str.ofString "parts" := ⟨_, mem_rec (k := 19) rfl ⟨rfl, rfl, rfl⟩, rfl⟩
theorem dx_exact : ∃ d ∈ recsOf pw, d.name = Str.ofString "exact" := ⟨_, mem_rec (k := 20) rfl ⟨rfl, rfl, rfl⟩, rfl⟩
theorem dx_quotient : ∃ d ∈ recsOf pw, d.name = Str.ofString "quotient" := ⟨_, mem_rec (k := 21) rfl ⟨rfl, rfl, rfl⟩, rfl⟩
theorem dx_round_ratio : ∃ d ∈ recsOf pw, d.name = Str.ofString "round_ratio" := ⟨_, mem_rec (k := 22) rfl ⟨rfl, rfl, rfl⟩, rfl⟩
theorem dx_assembled : ∃ d ∈ recsOf pw, d.name = Str.ofString "assembled" := ⟨_, mem_rec (k := 23) rfl ⟨rfl, rfl, rfl⟩, rfl⟩
theorem dx_from_int : ∃ d ∈ recsOf pw, d.name = Str.ofString "from_int" := ⟨_, mem_rec (k := 24) rfl ⟨rfl, rfl, rfl⟩, rfl⟩
theorem dx_scaled : ∃ d ∈ recsOf pw, d.name = Str.ofString "scaled" := ⟨_, mem_rec (k := 28) rfl ⟨rfl, rfl, rfl⟩, rfl⟩
theorem dx_decimal_place : ∃ d ∈ recsOf pw, d.name = Str.ofString "decimal_place" := ⟨_, mem_rec (k := 29) rfl ⟨rfl, rfl, rfl⟩, rfl⟩
theorem dx_first_place : ∃ d ∈ recsOf pw, d.name = Str.ofString "first_place" := ⟨_, mem_rec (k := 30) rfl ⟨rfl, rfl, rfl⟩, rfl⟩
theorem dx_shortest : ∃ d ∈ recsOf pw, d.name = Str.ofString "shortest" := ⟨_, mem_rec (k := 31) rfl ⟨rfl, rfl, rfl⟩, rfl⟩
theorem dx_last_figure : ∃ d ∈ recsOf pw, d.name = Str.ofString "last_figure" := ⟨_, mem_rec (k := 32) rfl ⟨rfl, rfl, rfl⟩, rfl⟩
theorem dx_signed_exponent : ∃ d ∈ recsOf pw, d.name = Str.ofString "signed_exponent" := ⟨_, mem_rec (k := 33) rfl ⟨rfl, rfl, rfl⟩, rfl⟩
theorem dx_with_exponent : ∃ d ∈ recsOf pw, d.name = Str.ofString "with_exponent" := ⟨_, mem_rec (k := 34) rfl ⟨rfl, rfl, rfl⟩, rfl⟩
theorem dx_laid_out : ∃ d ∈ recsOf pw, d.name = Str.ofString "laid_out" := ⟨_, mem_rec (k := 35) rfl ⟨rfl, rfl, rfl⟩, rfl⟩
theorem dx_without_figures : ∃ d ∈ recsOf pw, d.name = Str.ofString "without_figures" := ⟨_, mem_rec (k := 36) rfl ⟨rfl, rfl, rfl⟩, rfl⟩
theorem dx_show : ∃ d ∈ recsOf pw, d.name = Str.ofString "show" := ⟨_, mem_rec (k := 37) rfl ⟨rfl, rfl, rfl⟩, rfl⟩
theorem dx_sign_and_ratio : ∃ d ∈ recsOf pw, d.name = Str.ofString "sign_and_ratio" := ⟨_, mem_rec (k := 38) rfl ⟨rfl, rfl, rfl⟩, rfl⟩
theorem dx_half_up : ∃ d ∈ recsOf pw, d.name = Str.ofString "half_up" := ⟨_, mem_rec (k := 39) rfl ⟨rfl, rfl, rfl⟩, rfl⟩
theorem dx_to_fixed : ∃ d ∈ recsOf pw, d.name = Str.ofString "to_fixed" := ⟨_, mem_rec (k := 40) rfl ⟨rfl, rfl, rfl⟩, rfl⟩
theorem dx_rounded : ∃ d ∈ recsOf pw, d.name = Str.ofString "rounded" := ⟨_, mem_rec (k := 41) rfl ⟨rfl, rfl, rfl⟩, rfl⟩
theorem dx_to_exponential : ∃ d ∈ recsOf pw, d.name = Str.ofString "to_exponential" := ⟨_, mem_rec (k := 42) rfl ⟨rfl, rfl, rfl⟩, rfl⟩
theorem dx_to_precision : ∃ d ∈ recsOf pw, d.name = Str.ofString "to_precision" := ⟨_, mem_rec (k := 43) rfl ⟨rfl, rfl, rfl⟩, rfl⟩
theorem dx_is_blank : ∃ d ∈ recsOf pw, d.name = Str.ofString "is_blank" := ⟨_, mem_rec (k := 49) rfl ⟨rfl, rfl, rfl⟩, rfl⟩
theorem dx_skip_blanks : ∃ d ∈ recsOf pw, d.name = Str.ofString "skip_blanks" := ⟨_, mem_rec (k := 50) rfl ⟨rfl, rfl, rfl⟩, rfl⟩
theorem dx_trimmed : ∃ d ∈ recsOf pw, d.name = Str.ofString "trimmed" := ⟨_, mem_rec (k := 51) rfl ⟨rfl, rfl, rfl⟩, rfl⟩
theorem dx_figure_of : ∃ d ∈ recsOf pw, d.name = Str.ofString "figure_of" := ⟨_, mem_rec (k := 52) rfl ⟨rfl, rfl, rfl⟩, rfl⟩
theorem dx_run_end : ∃ d ∈ recsOf pw, d.name = Str.ofString "run_end" := ⟨_, mem_rec (k := 53) rfl ⟨rfl, rfl, rfl⟩, rfl⟩
theorem dx_worth : ∃ d ∈ recsOf pw, d.name = Str.ofString "worth" := ⟨_, mem_rec (k := 54) rfl ⟨rfl, rfl, rfl⟩, rfl⟩
theorem dx_from_decimal : ∃ d ∈ recsOf pw, d.name = Str.ofString "from_decimal" := ⟨_, mem_rec (k := 55) rfl ⟨rfl, rfl, rfl⟩, rfl⟩
theorem dx_sign_at : ∃ d ∈ recsOf pw, d.name = Str.ofString "sign_at" := ⟨_, mem_rec (k := 56) rfl ⟨rfl, rfl, rfl⟩, rfl⟩
theorem dx_turned : ∃ d ∈ recsOf pw, d.name = Str.ofString "turned" := ⟨_, mem_rec (k := 57) rfl ⟨rfl, rfl, rfl⟩, rfl⟩
theorem dx_exponent_at : ∃ d ∈ recsOf pw, d.name = Str.ofString "exponent_at" := ⟨_, mem_rec (k := 58) rfl ⟨rfl, rfl, rfl⟩, rfl⟩
theorem dx_decimal_at : ∃ d ∈ recsOf pw, d.name = Str.ofString "decimal_at" := ⟨_, mem_rec (k := 59) rfl ⟨rfl, rfl, rfl⟩, rfl⟩
theorem dx_text_to_number : ∃ d ∈ recsOf pw, d.name = Str.ofString "text_to_number" := ⟨_, mem_rec (k := 60) rfl ⟨rfl, rfl, rfl⟩, rfl⟩
theorem dx_parse_float : ∃ d ∈ recsOf pw, d.name = Str.ofString "parse_float" := ⟨_, mem_rec (k := 61) rfl ⟨rfl, rfl, rfl⟩, rfl⟩
theorem dx_parse_int : ∃ d ∈ recsOf pw, d.name = Str.ofString "parse_int" := ⟨_, mem_rec (k := 62) rfl ⟨rfl, rfl, rfl⟩, rfl⟩
theorem dx_law_minus : ∃ d ∈ recsOf pw, d.name = Str.ofString "_law_minus" := ⟨_, mem_rec (k := 66) rfl ⟨rfl, rfl, rfl⟩, rfl⟩
theorem dx_law_whole : ∃ d ∈ recsOf pw, d.name = Str.ofString "_law_whole" := ⟨_, mem_rec (k := 67) rfl ⟨rfl, rfl, rfl⟩, rfl⟩
theorem dx_law_pointed : ∃ d ∈ recsOf pw, d.name = Str.ofString "_law_pointed" := ⟨_, mem_rec (k := 68) rfl ⟨rfl, rfl, rfl⟩, rfl⟩
theorem dx_law_powered : ∃ d ∈ recsOf pw, d.name = Str.ofString "_law_powered" := ⟨_, mem_rec (k := 69) rfl ⟨rfl, rfl, rfl⟩, rfl⟩
theorem dx_law_cut : ∃ d ∈ recsOf pw, d.name = Str.ofString "_law_cut" := ⟨_, mem_rec (k := 70) rfl ⟨rfl, rfl, rfl⟩, rfl⟩
theorem dx_law_shows : ∃ d ∈ recsOf pw, d.name = Str.ofString "_law_shows" := ⟨_, mem_rec (k := 71) rfl ⟨rfl, rfl, rfl⟩, rfl⟩
theorem dx_law_rounds : ∃ d ∈ recsOf pw, d.name = Str.ofString "_law_rounds" := ⟨_, mem_rec (k := 72) rfl ⟨rfl, rfl, rfl⟩, rfl⟩
theorem dx_law_fixes : ∃ d ∈ recsOf pw, d.name = Str.ofString "_law_fixes" := ⟨_, mem_rec (k := 73) rfl ⟨rfl, rfl, rfl⟩, rfl⟩
theorem dx_law_texts_right : ∃ d ∈ recsOf pw, d.name = Str.ofString "_law_texts_right" := ⟨_, mem_rec (k := 74) rfl ⟨rfl, rfl, rfl⟩, rfl⟩
theorem dx_law_cuts_right : ∃ d ∈ recsOf pw, d.name = Str.ofString "_law_cuts_right" := ⟨_, mem_rec (k := 75) rfl ⟨rfl, rfl, rfl⟩, rfl⟩
theorem dx_law_odd_right : ∃ d ∈ recsOf pw, d.name = Str.ofString "_law_odd_right" := ⟨_, mem_rec (k := 76) rfl ⟨rfl, rfl, rfl⟩, rfl⟩
theorem dx_law : ∃ d ∈ recsOf pw, d.name = Str.ofString "law" := ⟨_, mem_rec (k := 77) rfl ⟨rfl, rfl, rfl⟩, rfl⟩
noncomputable def dxNames : List Str := [Str.ofString "width", Str.ofString "pack", Str.ofString "is_negative", Str.ofString "is_nan", Str.ofString "is_inf", Str.ofString "is_zero", Str.ofString "signed", Str.ofString "parts", Str.ofString "exact", Str.ofString "quotient", Str.ofString "round_ratio", Str.ofString "assembled", Str.ofString "from_int", Str.ofString "scaled", Str.ofString "decimal_place", Str.ofString "first_place", Str.ofString "shortest", Str.ofString "last_figure", Str.ofString "signed_exponent", Str.ofString "with_exponent", Str.ofString "laid_out", Str.ofString "without_figures", Str.ofString "show", Str.ofString "sign_and_ratio", Str.ofString "half_up", Str.ofString "to_fixed", Str.ofString "rounded", Str.ofString "to_exponential", Str.ofString "to_precision", Str.ofString "is_blank", Str.ofString "skip_blanks", Str.ofString "trimmed", Str.ofString "figure_of", Str.ofString "run_end", Str.ofString "worth", Str.ofString "from_decimal", Str.ofString "sign_at", Str.ofString "turned", Str.ofString "exponent_at", Str.ofString "decimal_at", Str.ofString "text_to_number", Str.ofString "parse_float", Str.ofString "parse_int", Str.ofString "_law_minus", Str.ofString "_law_whole", Str.ofString "_law_pointed", Str.ofString "_law_powered", Str.ofString "_law_cut", Str.ofString "_law_shows", Str.ofString "_law_rounds", Str.ofString "_law_fixes", Str.ofString "_law_texts_right", Str.ofString "_law_cuts_right", Str.ofString "_law_odd_right", Str.ofString "law"]
theorem dx_all : ∀ x ∈ dxNames, ∃ d ∈ recsOf pw, d.name = x := (List.forall_mem_cons.mpr ⟨dx_width, (List.forall_mem_cons.mpr ⟨dx_pack, (List.forall_mem_cons.mpr ⟨dx_is_negative, (List.forall_mem_cons.mpr ⟨dx_is_nan, (List.forall_mem_cons.mpr ⟨dx_is_inf, (List.forall_mem_cons.mpr ⟨dx_is_zero, (List.forall_mem_cons.mpr ⟨dx_signed, (List.forall_mem_cons.mpr ⟨dx_parts, (List.forall_mem_cons.mpr ⟨dx_exact, (List.forall_mem_cons.mpr ⟨dx_quotient, (List.forall_mem_cons.mpr ⟨dx_round_ratio, (List.forall_mem_cons.mpr ⟨dx_assembled, (List.forall_mem_cons.mpr ⟨dx_from_int, (List.forall_mem_cons.mpr ⟨dx_scaled, (List.forall_mem_cons.mpr ⟨dx_decimal_place, (List.forall_mem_cons.mpr ⟨dx_first_place, (List.forall_mem_cons.mpr ⟨dx_shortest, (List.forall_mem_cons.mpr ⟨dx_last_figure, (List.forall_mem_cons.mpr ⟨dx_signed_exponent, (List.forall_mem_cons.mpr ⟨dx_with_exponent, (List.forall_mem_cons.mpr ⟨dx_laid_out, (List.forall_mem_cons.mpr ⟨dx_without_figures, (List.forall_mem_cons.mpr ⟨dx_show, (List.forall_mem_cons.mpr ⟨dx_sign_and_ratio, (List.forall_mem_cons.mpr ⟨dx_half_up, (List.forall_mem_cons.mpr ⟨dx_to_fixed, (List.forall_mem_cons.mpr ⟨dx_rounded, (List.forall_mem_cons.mpr ⟨dx_to_exponential, (List.forall_mem_cons.mpr ⟨dx_to_precision, (List.forall_mem_cons.mpr ⟨dx_is_blank, (List.forall_mem_cons.mpr ⟨dx_skip_blanks, (List.forall_mem_cons.mpr ⟨dx_trimmed, (List.forall_mem_cons.mpr ⟨dx_figure_of, (List.forall_mem_cons.mpr ⟨dx_run_end, (List.forall_mem_cons.mpr ⟨dx_worth, (List.forall_mem_cons.mpr ⟨dx_from_decimal, (List.forall_mem_cons.mpr ⟨dx_sign_at, (List.forall_mem_cons.mpr ⟨dx_turned, (List.forall_mem_cons.mpr ⟨dx_exponent_at, (List.forall_mem_cons.mpr ⟨dx_decimal_at, (List.forall_mem_cons.mpr ⟨dx_text_to_number, (List.forall_mem_cons.mpr ⟨dx_parse_float, (List.forall_mem_cons.mpr ⟨dx_parse_int, (List.forall_mem_cons.mpr ⟨dx_law_minus, (List.forall_mem_cons.mpr ⟨dx_law_whole, (List.forall_mem_cons.mpr ⟨dx_law_pointed, (List.forall_mem_cons.mpr ⟨dx_law_powered, (List.forall_mem_cons.mpr ⟨dx_law_cut, (List.forall_mem_cons.mpr ⟨dx_law_shows, (List.forall_mem_cons.mpr ⟨dx_law_rounds, (List.forall_mem_cons.mpr ⟨dx_law_fixes, (List.forall_mem_cons.mpr ⟨dx_law_texts_right, (List.forall_mem_cons.mpr ⟨dx_law_cuts_right, (List.forall_mem_cons.mpr ⟨dx_law_odd_right, (List.forall_mem_cons.mpr ⟨dx_law, (fun _ h => nomatch h)⟩)⟩)⟩)⟩)⟩)⟩)⟩)⟩)⟩)⟩)⟩)⟩)⟩)⟩)⟩)⟩)⟩)⟩)⟩)⟩)⟩)⟩)⟩)⟩)⟩)⟩)⟩)⟩)⟩)⟩)⟩)⟩)⟩)⟩)⟩)⟩)⟩)⟩)⟩)⟩)⟩)⟩)⟩)⟩)⟩)⟩)⟩)⟩)⟩)⟩)⟩)⟩)⟩)⟩)⟩)
theorem dx_mem {x : Str} (h : dxNames.contains x = true) : ∃ d ∈ recsOf pw, d.name = x := dx_all x (by simpa using h)
section
variable {sc : Scope} {n : Nat} {ρ : Rho} {Ψ : Dat → Prop}
/-- an item of a text or of a tuple -/
noncomputable def PItem (d e : Dat) (Ψ : Dat → Prop) : Prop :=
  (∃ a x, d = DS a ∧ e = .int x ∧ 0 ≤ x ∧ x < a.length ∧ a.length ≤ 16777216 ∧ Ψ (DS [a.getD x.toNat 0])) ∨ (∃ ds x f, d = .tuple ds ∧ e = .int x ∧ 0 ≤ x ∧ x < 2 ^ 62 ∧ ds[x.toNat]? = some f ∧ Ψ f)
theorem PE.item {v i : Expr} {pos : Pos} (hi : notSlice i = true) (h : PE sc n ρ v fun d => PE sc n ρ i fun e => PItem d e Ψ) : PE sc n ρ (.Subscript v i pos) Ψ := by
  intro c s m own news hc ok S Q E kk
  refine Subscript_ (h c s m own news hc ok S _ _ fun u h1 t1 n1 F1 N1 X1 ⟨d, A1, p1⟩ => ?_)
  refine p1 c _ m own n1 hc ok (S.next F1 N1 X1) _ _ fun w h2 t2 n2 F2 N2 X2 ⟨e, B2, hp⟩ => ?_
  rcases hp with ⟨a, x, ed, ee, hx0, hx1, hl, p2⟩ | ⟨ds, x, f, ed, ee, hx0, hx1, hf, p2⟩
  · subst ed; subst ee
    cases A1; cases B2
    refine item_str (by simp [fitsSsize]; omega) (by rw [tx_length]; omega) (by rw [tx_length]; exact hx1) (fun _ => ?_) (sub_notSlice hi) letGo_str
    refine kk _ h2 (t2 + 1) n2 F2 N2 (X1.trans X2) ⟨DS [a.getD x.toNat 0], ?_, p2⟩
    have : Txt.item (tx a) x = tx [a.getD x.toNat 0] := by
      obtain ⟨k, rfl⟩ := Int.eq_ofNat_of_zero_le hx0
      have hk : k < a.length := by omega
      have e : seqIndex? (k : Int) a.length = some k := by
        unfold seqIndex?
        simp
        try omega
      unfold Txt.item Txt.charAt
      rw [tx_length, e]
      simp [tx, hk]
    rw [this]; exact .str _ _
  · subst ed; subst ee
    have A2 := A1.mono X2.sub
    cases A2 with
    | tuple hm D =>
      cases B2
      obtain ⟨hk, _⟩ := List.getElem?_eq_some_iff.mp hf
      obtain ⟨v, hv, hd⟩ := D.get hk
      have hj : seqIndex? x ds.length = some x.toNat := by
        unfold seqIndex?
        have : ¬ (x < 0) := by omega
        simp [this]
        try omega
      refine item_tupleT (j := x.toNat) (isTup_of N2 hm) (by omega) (by omega) (by rw [D.length]; exact hj) hv ?_ (sub_notSlice hi)
      refine kk _ h2 t2 n2 F2 N2 (X1.trans X2) ⟨f, ?_, p2⟩
      rw [List.getElem?_eq_getElem hk] at hf
      exact (Option.some.inj hf) ▸ hd
theorem PItem.txt {a : List Nat} {x : Nat} (hx : x < a.length) (hl : a.length ≤ 16777216) (h : Ψ (DS [a.getD x 0])) : PItem (DS a) (.int x) Ψ := .inl ⟨a, x, rfl, rfl, by walk_at "ar", by walk_at "ar", hl, by simpa using h⟩
theorem PItem.tup {ds : List Dat} {x : Nat} {f : Dat} (hx : x < 1000) (hf : ds[x]? = some f) (h : Ψ f) : PItem (.tuple ds) (.int x) Ψ := .inr ⟨ds, x, f, rfl, rfl, by walk_at "ar", by walk_at "ar", by simpa using hf, h⟩

noncomputable def PCut (d : Dat) (l u : Option Dat) (Ψ : Dat → Prop) : Prop := match l, u with
  | some e, some f => ∃ a x y, d = DS a ∧ e = .int x ∧ f = .int y ∧ 0 ≤ x ∧ 0 ≤ y ∧ a.length ≤ 16777216 ∧ Ψ (DS (cut a x.toNat y.toNat))
  | none, some f => ∃ a y, d = DS a ∧ f = .int y ∧ 0 ≤ y ∧ a.length ≤ 16777216 ∧ Ψ (DS (a.take y.toNat))
  | some f, none => ∃ a y, d = DS a ∧ f = .int y ∧ 0 ≤ y ∧ a.length ≤ 16777216 ∧ Ψ (DS (a.drop y.toNat))
  | none, none => False
theorem PE.cutSS {v l u : Expr} {p pos : Pos} (h : PE sc n ρ v fun d => PE sc n ρ l fun e => PE sc n ρ u fun f => PCut d (some e) (some f) Ψ) : PE sc n ρ (.Subscript v (.Slice (some l) (some u) Option.none p) pos) Ψ := PE.sliceSS h
theorem PE.cutNS {v u : Expr} {p pos : Pos} (h : PE sc n ρ v fun d => PE sc n ρ u fun f => PCut d Option.none (some f) Ψ) : PE sc n ρ (.Subscript v (.Slice Option.none (some u) Option.none p) pos) Ψ := PE.sliceNS h
theorem PE.cutSN {v u : Expr} {p pos : Pos} (h : PE sc n ρ v fun d => PE sc n ρ u fun f => PCut d (some f) Option.none Ψ) : PE sc n ρ (.Subscript v (.Slice (some u) Option.none Option.none p) pos) Ψ := PE.sliceSN h
theorem PCut.ss {a : List Nat} {x y : Nat} (hl : a.length ≤ 16777216) (h : Ψ (DS (cut a x y))) : PCut (DS a) (some (.int x)) (some (.int y)) Ψ := ⟨a, x, y, rfl, rfl, rfl, by walk_at "ar", by walk_at "ar", hl, by simpa using h⟩
theorem PCut.ns {a : List Nat} {y : Nat} (hl : a.length ≤ 16777216) (h : Ψ (DS (a.take y))) : PCut (DS a) Option.none (some (.int y)) Ψ := ⟨a, y, rfl, rfl, by walk_at "ar", hl, by simpa using h⟩
theorem PCut.sn {a : List Nat} {y : Nat} (hl : a.length ≤ 16777216) (h : Ψ (DS (a.drop y))) : PCut (DS a) (some (.int y)) Option.none Ψ := ⟨a, y, rfl, rfl, by walk_at "ar", hl, by simpa using h⟩
end

theorem PCall.ord1 {c : Nat} {Ψ : Dat → Prop} (h : Ψ (.int (c : Nat))) : PCall (.builtin "ord") [DS [c]] Ψ := PCall.ord rfl h
theorem PCmp.isNoneN {Θ : Bool → Prop} (h : Θ true) : PCmp .Is .none .none Θ := PCmp.isNone h
theorem PCmp.isNotNoneN {Θ : Bool → Prop} (h : Θ false) : PCmp .IsNot .none .none Θ := PCmp.isNotNone h
theorem PCmp.isNoneT {ds : List Dat} {Θ : Bool → Prop} (h : Θ false) : PCmp .Is (.tuple ds) .none Θ := PCmp.isNone h
theorem PCmp.isNotNoneT {ds : List Dat} {Θ : Bool → Prop} (h : Θ true) : PCmp .IsNot (.tuple ds) .none Θ := PCmp.isNotNone h
theorem ite_nt {A B : Prop} (h : B) : if (!true) = true then A else B := by simpa using h
theorem ite_nf {A B : Prop} (h : A) : if (!false) = true then A else B := by simpa using h
theorem PIn.addN {x y : Nat} {Ψ : Dat → Prop} (h : Ψ (.int ((x + y : Nat) : Int))) : PIn .Add (.int x) (.int y) Ψ := PIn.add (by rw [← Int.natCast_add]; exact h)
theorem PIn.subN {x y : Nat} {Ψ : Dat → Prop} (hy : y ≤ x) (h : Ψ (.int ((x - y : Nat) : Int))) : PIn .Sub (.int x) (.int y) Ψ := PIn.sub (by rw [← Int.ofNat_sub hy]; exact h)
/-! numparse as plain functions -/
noncomputable def isB (c : Nat) : Bool := decide (c ∈ BLANKSL) || decide (c ∈ MOREL)
noncomputable def skipF (l : List Nat) (i : Nat) : Nat := i + ((l.drop i).takeWhile isB).length
noncomputable def trimF (l : List Nat) : List Nat := cut l (skipF l 0) (l.length - ((l.drop (skipF l 0)).reverse.takeWhile isB).length)
noncomputable def figF (c : Nat) : Nat := if 48 ≤ c ∧ c ≤ 57 then c - 48 else if 97 ≤ c ∧ c ≤ 122 then c - 87 else if 65 ≤ c ∧ c ≤ 90 then c - 55 else 36
noncomputable def runF (l : List Nat) (i r : Nat) : Nat := i + ((l.drop i).takeWhile fun c => decide (figF c < r)).length
noncomputable def foldF (r : Nat) (l : List Nat) : Nat := l.foldl (fun a c => a * r + figF c) 0
noncomputable def worthF (l : List Nat) (b e r : Nat) : Nat := foldF r (cut l b e)
noncomputable def fdF (f : List Nat) (e : Int) : Nat :=
  if lstr f [48] = [] ∨ (lstr f [48]).length + e < -400 then 0
  else if 400 < (lstr f [48]).length + e then INFN
  else if 0 ≤ e then rrF 0 (foldF 10 (lstr f [48]) * 10 ^ e.toNat) 1
  else rrF 0 (foldF 10 (lstr f [48])) (10 ^ (-e).toNat)
noncomputable def signF (l : List Nat) (i : Nat) : Bool × Nat := if i < l.length ∧ (l.getD i 0 = 43 ∨ l.getD i 0 = 45) then (l.getD i 0 == 45, i + 1) else (false, i)
noncomputable def turnF (b : Nat) (m : Bool) : Nat := if m = true then b + 2 ^ 63 else b
noncomputable def expF (l : List Nat) (i : Nat) : Int × Nat :=
  if ¬ (i < l.length ∧ (l.getD i 0 = 101 ∨ l.getD i 0 = 69)) then (0, i)
  else if runF l (signF l (i + 1)).2 10 = (signF l (i + 1)).2 then (0, i)
  else
    let far := min (worthF l (signF l (i + 1)).2 (runF l (signF l (i + 1)).2 10) 10) (10 ^ 9)
    (if (signF l (i + 1)).1 = true then -(far : Int) else far, runF l (signF l (i + 1)).2 10)
noncomputable def decF (l : List Nat) (i : Nat) : Option (Nat × Nat) :=
  if cut l i (i + 8) = ENDLESSL then some (INFN, i + 8)
  else
    let p := runF l i 10
    let dot := p < l.length ∧ l.getD p 0 = 46
    let e := if dot then runF l (p + 1) 10 else p
    let f := if dot then cut l i p ++ cut l (p + 1) e else cut l i p
    let b := if dot then e - p - 1 else 0
    if f = [] then none else some (fdF f ((expF l e).1 - (b : Nat)), (expF l e).2)
noncomputable def ttnF (l : List Nat) : Nat :=
  let t := trimF l
  if t = [] then 0
  else if t.take 2 = [48, 120] ∨ t.take 2 = [48, 88] then
    if 2 < t.length ∧ runF t 2 16 = t.length then rrF 0 (worthF t 2 t.length 16) 1 else NANN
  else match decF t (signF t 0).2 with
    | some x => if x.2 = t.length then turnF x.1 (signF t 0).1 else NANN
    | none => NANN
noncomputable def pfF (l : List Nat) : Nat := match decF l (signF l (skipF l 0)).2 with
  | some x => turnF x.1 (signF l (skipF l 0)).1
  | none => NANN
noncomputable def piF (l : List Nat) (r : Int) : Nat :=
  let m := (signF l (skipF l 0)).1
  let b := (signF l (skipF l 0)).2
  if r ≠ 0 ∧ ¬ (2 ≤ r ∧ r ≤ 36) then NANN
  else
    let pre := (cut l b (b + 2) = [48, 120] ∨ cut l b (b + 2) = [48, 88]) ∧ (r = 0 ∨ r = 16)
    let b' := if pre then b + 2 else b
    let r' : Nat := if pre then 16 else if r = 0 then 10 else r.toNat
    if runF l b' r' = b' then NANN else turnF (rrF 0 (worthF l b' (runF l b' r') r') 1) m
noncomputable def dg (m : Nat) : List Nat := (Nat.toDigits 10 m).map Char.toNat
theorem dec_nat (m : Nat) : dec (m : Int) = dg m := by
  unfold dec dg
  exact PySem.W.KIN.signs_num m
theorem dchar : ∀ d : Nat, d < 10 → (Nat.digitChar d).toNat = 48 + d := by decide
theorem dg_eq (m : Nat) : dg m = if m < 10 then [48 + m] else dg (m / 10) ++ [48 + m % 10] := by
  unfold dg
  rw [Nat.toDigits_eq_if (by decide)]
  split
  · rename_i h; rw [List.map_singleton, dchar m h]
  · rw [List.map_append, List.map_singleton, dchar _ (Nat.mod_lt _ (by decide))]
theorem dg_small {m : Nat} (h : m < 10) : dg m = [48 + m] := by rw [dg_eq, if_pos h]
theorem dg_step {m : Nat} (h : 10 ≤ m) : dg m = dg (m / 10) ++ [48 + m % 10] := by rw [dg_eq, if_neg (by walk_at "ar")]
theorem dg_length (m : Nat) : (dg m).length = (Nat.toDigits 10 m).length := by unfold dg; rw [List.length_map]
theorem dg_le {k m : Nat} (hk : 1 ≤ k) (h : m < 10 ^ k) : (dg m).length ≤ k := by rw [dg_length]; exact digits10_le hk h
theorem dg_ge {k m : Nat} (h : 10 ^ k ≤ m) : k + 1 ≤ (dg m).length := by rw [dg_length]; exact digits10_ge h
theorem dg_pos (m : Nat) : 1 ≤ (dg m).length := by
  rw [dg_eq]; split
  · exact Nat.le_refl _
  · rw [List.length_append]; exact Nat.le_add_left _ _
theorem dg_len {k m : Nat} (h1 : 10 ^ k ≤ m) (h2 : m < 10 ^ (k + 1)) : (dg m).length = k + 1 := by
  have := dg_le (by walk_at "ar") h2
  have := dg_ge h1
  walk_at "ar"
/-- a number lies between the powers that its figures tell -/
theorem dg_hi (m : Nat) : m < 10 ^ (dg m).length := by
  apply Decidable.byContradiction; intro h
  have := dg_ge (Nat.le_of_not_lt h); walk_at "ar"
theorem dg_lo {m : Nat} (h : 0 < m) : 10 ^ ((dg m).length - 1) ≤ m := by
  apply Decidable.byContradiction; intro hh
  have h1 := dg_pos m
  by_cases h2 : (dg m).length = 1
  · rw [h2] at hh; simp at hh; walk_at "ar"
  · have := dg_le (k := (dg m).length - 1) (by walk_at "ar") (Nat.lt_of_not_le hh); walk_at "ar"
theorem dg_fig (m : Nat) : ∀ c ∈ dg m, 48 ≤ c ∧ c ≤ 57 := by
  induction m using Nat.strongRecOn with
  | _ m ih =>
    intro c hc
    rw [dg_eq] at hc
    split at hc
    · simp at hc; walk_at "ar"
    · rw [List.mem_append] at hc
      rcases hc with hc | hc
      · exact ih (m / 10) (by walk_at "ar") c hc
      · simp at hc; walk_at "ar"
theorem foldF_dg (m : Nat) : foldF 10 (dg m) = m := by
  induction m using Nat.strongRecOn with
  | _ m ih =>
    rw [dg_eq]
    split
    · rename_i h
      show 0 * 10 + figF (48 + m) = m
      unfold figF; rw [if_pos (by walk_at "ar")]; walk_at "ar"
    · rename_i h
      have : foldF 10 (dg (m / 10) ++ [48 + m % 10]) = foldF 10 (dg (m / 10)) * 10 + figF (48 + m % 10) := by unfold foldF; rw [List.foldl_append]; rfl
      rw [this, ih (m / 10) (by walk_at "ar")]
      unfold figF; rw [if_pos (by walk_at "ar")]; walk_at "ar"

theorem log2_small {x : Nat} (h : x < 2 ^ 1900) : x.log2 < 1920 := by
  by_cases h0 : x = 0
  · subst h0; decide
  · refine (Nat.log2_lt h0).mpr (Nat.lt_of_lt_of_le h (Nat.pow_le_pow_right (by decide) (by decide)))
theorem PCall.strN {x : Nat} {Ψ : Dat → Prop} (hs : x < 2 ^ 1900) (h : Ψ (DS (dg x))) : PCall (.type "str") [.int x] Ψ := PCall.strI (log2_small hs) (by rw [dec_nat]; exact h)
theorem dg_short {x : Nat} (hs : x < 2 ^ 1900) : (dg x).length ≤ 1000 := dg_le (by decide) (Nat.lt_of_lt_of_le hs (by decide +kernel))
theorem PCall.absN {x : Int} {Ψ : Dat → Prop} (h : Ψ (.int (x.natAbs : Nat))) : PCall (.builtin "abs") [.int x] Ψ := PCall.abs (by
  have : (if x < 0 then -x else x) = (x.natAbs : Int) := by split <;> walk_at "ar"
  rw [this]; exact h)
/-- a ratio below a power of ten, whole or not -/
noncomputable def LT10 (t b : Nat) (n : Int) : Prop := t * 10 ^ (-n).toNat < b * 10 ^ n.toNat
theorem LT10.up {t b : Nat} {n : Int} (h : LT10 t b n) : LT10 t b (n + 1) := by
  unfold LT10 at *
  by_cases hn : 0 ≤ n
  · have e1 : (-n).toNat = 0 := by walk_at "ar"
    have e2 : (-(n + 1)).toNat = 0 := by walk_at "ar"
    have e3 : (n + 1).toNat = n.toNat + 1 := by walk_at "ar"
    rw [e1] at h
    rw [e2, e3, Nat.pow_succ, ← Nat.mul_assoc]; walk_at "ar"
  · have e1 : (-n).toNat = (-(n + 1)).toNat + 1 := by walk_at "ar"
    have e2 : n.toNat = 0 := by walk_at "ar"
    have e3 : (n + 1).toNat = 0 := by walk_at "ar"
    rw [e1, e2, Nat.pow_succ, ← Nat.mul_assoc] at h
    rw [e3]; walk_at "ar"
theorem LT10.upTo {t b : Nat} {n : Int} (k : Nat) (h : LT10 t b n) : LT10 t b (n + k) := by
  induction k with
  | zero => simpa using h
  | succ k ih => have := ih.up; rw [show n + ((k + 1 : Nat) : Int) = n + k + 1 by walk_at "ar"]; exact this
theorem LT10.mono {t b : Nat} {n m : Int} (h : LT10 t b n) (hm : n ≤ m) : LT10 t b m := by
  have := h.upTo (m - n).toNat
  rw [show n + ((m - n).toNat : Int) = m by walk_at "ar"] at this; exact this
theorem LT10.unique {t b : Nat} {n m : Int} (h1 : LT10 t b n) (h2 : ¬ LT10 t b (n - 1)) (h3 : LT10 t b m) (h4 : ¬ LT10 t b (m - 1)) : n = m := by
  apply Decidable.byContradiction; intro hne
  rcases Int.lt_or_gt_of_ne hne with h | h
  · exact h4 (h1.mono (by walk_at "ar"))
  · exact h2 (h3.mono (by walk_at "ar"))
/-- the place as the lengths of the texts tell it -/
theorem LT10.lens {t b : Nat} (ht : 0 < t) (hb : 0 < b) : LT10 t b (((dg t).length : Int) - (dg b).length + 1) ∧ ¬ LT10 t b (((dg t).length : Int) - (dg b).length - 1) := by
  have t1 := dg_hi t; have t2 := dg_lo ht; have t3 := dg_pos t
  have b1 := dg_hi b; have b2 := dg_lo hb; have b3 := dg_pos b
  generalize (dg t).length = x at *
  generalize (dg b).length = y at *
  obtain ⟨x, rfl⟩ : ∃ z, x = z + 1 := ⟨x - 1, by walk_at "ar"⟩
  obtain ⟨y, rfl⟩ : ∃ z, y = z + 1 := ⟨y - 1, by walk_at "ar"⟩
  simp only [Nat.add_sub_cancel] at t2 b2
  have e1 : (((x + 1 : Nat) : Int) - ((y + 1 : Nat) : Int) + 1) = (x : Int) - y + 1 := by walk_at "ar"
  have e2 : (((x + 1 : Nat) : Int) - ((y + 1 : Nat) : Int) - 1) = (x : Int) - y - 1 := by walk_at "ar"
  rw [e1, e2]
  unfold LT10
  constructor
  · have h1 : t * 10 ^ (-((x : Int) - y + 1)).toNat < 10 ^ (x + 1) * 10 ^ (-((x : Int) - y + 1)).toNat := Nat.mul_lt_mul_of_pos_right t1 (Nat.pow_pos (by decide))
    have h2 : 10 ^ y * 10 ^ ((x : Int) - y + 1).toNat ≤ b * 10 ^ ((x : Int) - y + 1).toNat := Nat.mul_le_mul_right _ b2
    rw [← Nat.pow_add] at h1 h2
    rw [show x + 1 + (-((x : Int) - y + 1)).toNat = y + ((x : Int) - y + 1).toNat by walk_at "ar"] at h1
    walk_at "ar"
  · have h1 : 10 ^ x * 10 ^ (-((x : Int) - y - 1)).toNat ≤ t * 10 ^ (-((x : Int) - y - 1)).toNat := Nat.mul_le_mul_right _ t2
    have h2 : b * 10 ^ ((x : Int) - y - 1).toNat < 10 ^ (y + 1) * 10 ^ ((x : Int) - y - 1).toNat := Nat.mul_lt_mul_of_pos_right b1 (Nat.pow_pos (by decide))
    rw [← Nat.pow_add] at h1 h2
    rw [show x + (-((x : Int) - y - 1)).toNat = y + 1 + ((x : Int) - y - 1).toNat by walk_at "ar"] at h1
    walk_at "ar"
theorem lk_filter {x y : Str} {d : Dat} {ρ : Rho} (h : (x == y) = false) (h2 : ρ.lookup x = some d) : (ρ.filter fun q => !(q.1 == y)).lookup x = some d := by
  induction ρ with
  | nil => exact h2
  | cons q t ih =>
    rw [List.lookup_cons] at h2
    rw [List.filter_cons]
    by_cases e : x == q.1
    · have ex : x = q.1 := by simpa using e
      rw [e] at h2
      have : (q.1 == y) = false := by rw [← ex]; exact h
      rw [this]
      rw [Bool.not_false, if_pos rfl, List.lookup_cons, e]
      exact h2
    · have e : (x == q.1) = false := by simpa using e
      rw [e] at h2
      split
      · rw [List.lookup_cons, e]; exact ih h2
      · exact ih h2
theorem omNe_some {x y : Str} {ds : List Dat} (h : (!(x == y)) = true) : omNe (some (x, ds)) y = true := h
theorem omAll {x : Str} {ds : List Dat} {sc : Scope} {xs : List Str} (h : xs.all (fun y => nameIs sc y .local && omNe (some (x, [])) y) = true) : xs.all (fun y => nameIs sc y .local && omNe (some (x, ds)) y) = true := h
theorem PCmp.isNotNoneS {l : List Nat} {Θ : Bool → Prop} (h : Θ true) : PCmp .IsNot (DS l) .none Θ := PCmp.isNotNone h
theorem PCmp.isNoneI {x : Int} {Θ : Bool → Prop} (h : Θ false) : PCmp .Is (.int x) .none Θ := PCmp.isNone h
/-- the figures of N (k of them, no 0 at the end) lie in the range of a ratio num / unit: N by ten to the power of k -/
structure Gen (num abv blw unit : Nat) (ev : Bool) (N k : Nat) : Prop where
  lo : 10 ^ k * num ≤ N * unit + 10 ^ k * blw
  lo' : ev = false → 10 ^ k * num < N * unit + 10 ^ k * blw
  hi : N * unit ≤ 10 ^ k * (num + abv)
  hi' : ev = false → N * unit < 10 ^ k * (num + abv)
  sm : 4 * (10 ^ k * abv) < unit
  ba : blw ≤ abv
  n0 : N % 10 ≠ 0
  n1 : 10 ^ (k - 1) ≤ N
  n2 : N < 10 ^ k
  k1 : 1 ≤ k

/-- what the loop holds after j figures -/
structure GenAt (num unit : Nat) (N k j r : Nat) : Prop where
  eq : num * 10 ^ j = N / 10 ^ (k - j) * unit + r
  lt : r < unit

theorem Gen.start {num abv blw unit N k : Nat} {ev : Bool} (g : Gen num abv blw unit ev N k) : GenAt num unit N k 0 num := by
  refine ⟨?_, ?_⟩
  · rw [Nat.sub_zero, Nat.div_eq_of_lt g.n2]; simp
  · have h1 := g.lo
    have h2 : 10 ^ k * blw ≤ 10 ^ k * abv := Nat.mul_le_mul_left _ g.ba
    have h3 := g.sm
    have h4 : (N + 1) * unit ≤ 10 ^ k * unit := Nat.mul_le_mul_right _ g.n2
    rw [Nat.add_mul, Nat.one_mul] at h4
    have h5 : 10 ^ k * num < 10 ^ k * unit := by walk_at "ar"
    exact Nat.lt_of_mul_lt_mul_left h5

section
variable {num abv blw unit N k j r : Nat} {ev : Bool}
theorem mul_le_of_lt_succ {a b u : Nat} (h : a * u < (b + 1) * u) : a ≤ b := Nat.le_of_lt_succ (Nat.lt_of_mul_lt_mul_right h)

/-- a figure that is not the last one -/
theorem Gen.mid (g : Gen num abv blw unit ev N k) (s : GenAt num unit N k j r) (hj : j + 1 < k) :
    blw * 10 ^ (j + 1) < (r * 10) % unit ∧ (r * 10) % unit + abv * 10 ^ (j + 1) < unit ∧ (r * 10) / unit = N / 10 ^ (k - (j + 1)) % 10 ∧ GenAt num unit N k (j + 1) ((r * 10) % unit) := by
  have hu : 0 < unit := Nat.lt_of_le_of_lt (Nat.zero_le _) s.lt
  obtain ⟨e, he⟩ : ∃ e, k - (j + 1) = e + 1 := ⟨k - (j + 1) - 1, by walk_at "ar"⟩
  have hk : k = (e + 1) + (j + 1) := by walk_at "ar"
  have hkj : k - j = e + 2 := by walk_at "ar"
  have pk : 10 ^ k = 10 ^ (e + 1) * 10 ^ (j + 1) := by rw [hk, Nat.pow_add]
  have hq := Nat.div_add_mod (r * 10) unit
  have hR := Nat.mod_lt (r * 10) hu
  generalize (r * 10) % unit = R at *
  generalize (r * 10) / unit = f at *
  have seq := s.eq
  rw [hkj] at seq
  have hY : N / 10 ^ (e + 2) = N / 10 ^ (e + 1) / 10 := by rw [Nat.div_div_eq_div_mul, ← Nat.pow_succ]
  rw [hY] at seq
  have hN := Nat.div_add_mod N (10 ^ (e + 1))
  have hs := Nat.mod_lt N (show 0 < 10 ^ (e + 1) from Nat.pow_pos (by decide))
  have hs0 : N % 10 ^ (e + 1) % 10 = N % 10 := Nat.mod_mod_of_dvd _ (by rw [Nat.pow_succ]; exact Nat.dvd_mul_left _ _)
  have hsm := g.sm
  have hlo := g.lo
  have hhi := g.hi
  have hba : 10 ^ (e + 1) * (blw * 10 ^ (j + 1)) ≤ 10 ^ (e + 1) * (abv * 10 ^ (j + 1)) := Nat.mul_le_mul_left _ (Nat.mul_le_mul_right _ g.ba)
  have hn0 := g.n0
  rw [he]
  generalize hYd : N / 10 ^ (e + 1) = Y at *
  generalize N % 10 ^ (e + 1) = t at *
  have hYk : N / 10 ^ (k - (j + 1)) = Y := by rw [he, hYd]
  have ht : 1 ≤ t := by walk_at "ar"
  -- everything by M
  have eX : num * 10 ^ (j + 1) = (10 * (Y / 10) + f) * unit + R := by
    rw [Nat.pow_succ, ← Nat.mul_assoc, seq, Nat.add_mul, ← hq, Nat.add_mul]
    have : Y / 10 * unit * 10 = 10 * (Y / 10) * unit := by rw [Nat.mul_comm, ← Nat.mul_assoc]
    have : unit * f = f * unit := Nat.mul_comm _ _
    walk_at "ar"
  generalize hXd : 10 * (Y / 10) + f = X at *
  have c1 : 10 ^ k * num = 10 ^ (e + 1) * X * unit + 10 ^ (e + 1) * R := by
    rw [pk, Nat.mul_assoc, Nat.mul_comm (10 ^ (j + 1)), eX, Nat.mul_add, Nat.mul_assoc]
  have c2 : 10 ^ k * blw = 10 ^ (e + 1) * (blw * 10 ^ (j + 1)) := by rw [pk, Nat.mul_assoc, Nat.mul_comm (10 ^ (j + 1))]
  have c3 : 10 ^ k * abv = 10 ^ (e + 1) * (abv * 10 ^ (j + 1)) := by rw [pk, Nat.mul_assoc, Nat.mul_comm (10 ^ (j + 1))]
  have c4 : N * unit = 10 ^ (e + 1) * Y * unit + t * unit := by rw [← hN, Nat.add_mul]
  rw [Nat.mul_add, c1, c3, c4] at hhi
  rw [c1, c2, c4] at hlo
  rw [c3] at hsm
  generalize blw * 10 ^ (j + 1) = b at *
  generalize abv * 10 ^ (j + 1) = a at *
  have hM : 10 ≤ 10 ^ (e + 1) := by rw [Nat.pow_succ]; have := Nat.pow_pos (n := e) (show 0 < 10 by decide); walk_at "ar"
  generalize 10 ^ (e + 1) = M at *
  have hMR : M * R + M ≤ M * unit := by rw [← Nat.mul_succ]; exact Nat.mul_le_mul_left _ hR
  have htu : unit ≤ t * unit := Nat.le_mul_of_pos_left _ (by walk_at "ar")
  have htM : t * unit + unit ≤ M * unit := by rw [← Nat.succ_mul]; exact Nat.mul_le_mul_right _ hs
  have hXY : X ≤ Y := by
    have : M * X * unit < M * (Y + 1) * unit := by rw [Nat.mul_add, Nat.mul_one, Nat.add_mul]; walk_at "ar"
    exact Nat.le_of_lt_succ (Nat.lt_of_mul_lt_mul_left (Nat.lt_of_mul_lt_mul_right this))
  have hYX : Y ≤ X := by
    have : M * Y * unit < M * (X + 1) * unit := by rw [Nat.mul_add, Nat.mul_one, Nat.add_mul]; walk_at "ar"
    exact Nat.le_of_lt_succ (Nat.lt_of_mul_lt_mul_left (Nat.lt_of_mul_lt_mul_right this))
  have hE : X = Y := Nat.le_antisymm hXY hYX
  rw [hE] at hlo hhi eX hXd
  refine ⟨?_, ?_, by walk_at "ar", ⟨?_, hR⟩⟩
  · have : M * b < M * R := by walk_at "ar"
    exact Nat.lt_of_mul_lt_mul_left this
  · have : M * (R + a) < M * unit := by rw [Nat.mul_add]; walk_at "ar"
    exact Nat.lt_of_mul_lt_mul_left this
  · rw [hYk]; exact eX

/-- the last figure -/
theorem Gen.last (g : Gen num abv blw unit ev N k) (s : GenAt num unit N k j r) (hj : j + 1 = k) :
    ((r * 10) / unit = N % 10 ∧ ((r * 10) % unit < blw * 10 ^ (j + 1) ∨ (ev = true ∧ (r * 10) % unit = blw * 10 ^ (j + 1))) ∧ (r * 10) % unit + abv * 10 ^ (j + 1) < unit) ∨
    ((r * 10) / unit + 1 = N % 10 ∧ blw * 10 ^ (j + 1) < (r * 10) % unit ∧ (unit < (r * 10) % unit + abv * 10 ^ (j + 1) ∨ (ev = true ∧ (r * 10) % unit + abv * 10 ^ (j + 1) = unit))) := by
  have hu : 0 < unit := Nat.lt_of_le_of_lt (Nat.zero_le _) s.lt
  have hkj : k - j = 1 := by walk_at "ar"
  have hq := Nat.div_add_mod (r * 10) unit
  have hR := Nat.mod_lt (r * 10) hu
  generalize (r * 10) % unit = R at *
  generalize (r * 10) / unit = f at *
  have seq := s.eq
  rw [hkj, Nat.pow_one] at seq
  have hsm := g.sm
  have hlo := g.lo
  have hhi := g.hi
  have hlo' := g.lo'
  have hhi' := g.hi'
  have hba : blw * 10 ^ (j + 1) ≤ abv * 10 ^ (j + 1) := Nat.mul_le_mul_right _ g.ba
  have eX : num * 10 ^ (j + 1) = (10 * (N / 10) + f) * unit + R := by
    rw [Nat.pow_succ, ← Nat.mul_assoc, seq, Nat.add_mul, ← hq, Nat.add_mul]
    have : N / 10 * unit * 10 = 10 * (N / 10) * unit := by rw [Nat.mul_comm, ← Nat.mul_assoc]
    have : unit * f = f * unit := Nat.mul_comm _ _
    walk_at "ar"
  have hXd : ∃ X, 10 * (N / 10) + f = X := ⟨_, rfl⟩
  obtain ⟨X, hXd⟩ := hXd
  rw [hXd] at eX
  rw [← hj] at hlo hhi hlo' hhi' hsm
  rw [Nat.mul_add, Nat.mul_comm _ num, Nat.mul_comm _ abv, eX] at hhi hhi'
  rw [Nat.mul_comm _ num, Nat.mul_comm _ blw, eX] at hlo hlo'
  rw [Nat.mul_comm _ abv] at hsm
  generalize blw * 10 ^ (j + 1) = b at *
  generalize abv * 10 ^ (j + 1) = a at *
  have hXN : X ≤ N := by
    have : X * unit < (N + 1) * unit := by rw [Nat.add_mul, Nat.one_mul]; walk_at "ar"
    exact Nat.le_of_lt_succ (Nat.lt_of_mul_lt_mul_right this)
  have hNX : N ≤ X + 1 := by
    have : N * unit < (X + 1 + 1) * unit := by rw [Nat.add_mul, Nat.add_mul, Nat.one_mul]; walk_at "ar"
    exact Nat.le_of_lt_succ (Nat.lt_of_mul_lt_mul_right this)
  by_cases hE : X = N
  · left
    rw [hE] at hlo hhi hlo' hhi' hXd
    refine ⟨by walk_at "ar", ?_, by walk_at "ar"⟩
    cases ev with
    | true => by_cases h : R < b
              · exact .inl h
              · exact .inr ⟨rfl, by walk_at "ar"⟩
    | false => have := hlo' rfl; exact .inl (by walk_at "ar")
  · right
    have hE : N = X + 1 := by walk_at "ar"
    have e2 : N * unit = X * unit + unit := by rw [hE, Nat.add_mul, Nat.one_mul]
    rw [e2] at hlo hhi hlo' hhi'
    refine ⟨by walk_at "ar", by walk_at "ar", ?_⟩
    cases ev with
    | true => by_cases h : unit < R + a
              · exact .inl h
              · exact .inr ⟨rfl, by walk_at "ar"⟩
    | false => have := hhi' rfl; exact .inl (by walk_at "ar")
end

theorem dg_getD {N k : Nat} (h1 : 10 ^ (k - 1) ≤ N) (h2 : N < 10 ^ k) (hk : 1 ≤ k) : ∀ j, j < k → (dg N).getD j 0 = 48 + N / 10 ^ (k - (j + 1)) % 10 := by
  induction k generalizing N with
  | zero => walk_at "ar"
  | succ k ih =>
    intro j hj
    by_cases h : N < 10
    · have : k = 0 := by
        apply Decidable.byContradiction; intro hk0
        have : 10 ^ 1 ≤ 10 ^ k := Nat.pow_le_pow_right (by decide) (by walk_at "ar")
        simp only [Nat.add_sub_cancel] at h1; walk_at "ar"
      subst this
      have : j = 0 := by walk_at "ar"
      subst this
      rw [dg_small h]; simp; walk_at "ar"
    · have hk0 : 1 ≤ k := by
        apply Decidable.byContradiction; intro hk0
        have : k = 0 := by walk_at "ar"
        subst this; simp at h2; walk_at "ar"
      have a1 : 10 ^ (k - 1) ≤ N / 10 := by
        rw [Nat.le_div_iff_mul_le (by decide), ← Nat.pow_succ, show (k - 1).succ = k by walk_at "ar"]; simpa using h1
      have a2 : N / 10 < 10 ^ k := Nat.div_lt_of_lt_mul (by rw [Nat.mul_comm, ← Nat.pow_succ]; exact h2)
      have hl : (dg (N / 10)).length = k := by
        have := dg_len (k := k - 1) a1 (by rw [show k - 1 + 1 = k by walk_at "ar"]; exact a2)
        walk_at "ar"
      rw [dg_step (by walk_at "ar")]
      by_cases hjk : j < k
      · have := ih a1 a2 hk0 j hjk
        rw [List.getD_eq_getElem?_getD, List.getElem?_append_left (by walk_at "ar"), ← List.getD_eq_getElem?_getD, this, Nat.div_div_eq_div_mul, Nat.mul_comm 10, ← Nat.pow_succ]
        rw [show (k - (j + 1)).succ = k + 1 - (j + 1) by walk_at "ar"]
      · have : j = k := by walk_at "ar"
        subst this
        rw [List.getD_eq_getElem?_getD, List.getElem?_append_right (by walk_at "ar"), hl]
        simp
section
variable {sc : Scope} {n : Nat} {ρ : Rho} {Ψ : Dat → Prop}
/-- the value of a chain of two -/
theorem PE.cmp2 {l r r2 : Expr} {op op2 : CmpOp} {pos : Pos}
    (h : PE sc n ρ l fun a => PE sc n ρ r fun b => PCmp op a b fun t => if t = true then PE sc n ρ r2 (fun d => PCmp op2 b d fun u => Ψ (.bool u)) else Ψ (.bool false))
    (hm : lastMarks [op, op2] [r, r2] = false) : PE sc n ρ (.Compare l [op, op2] [r, r2] pos) Ψ := by
  intro c s m own news hc ok S Q E kk
  refine Compare_chain (h c s m own news hc ok S _ _ fun u h1 t1 n1 F1 N1 X1 ⟨a, A1, p1⟩ => ?_) hm
  refine chain_link (p1 c _ m own n1 hc ok (S.next F1 N1 X1) _ _ fun v h2 t2 n2 F2 N2 X2 ⟨b, B2, p2⟩ => ?_)
  refine p2 n c _ m own n2 u v ok F2 N2 (A1.mono X2.sub) B2 _ _ fun r h3 t3 n3 F3 N3 X3 ⟨t, e, p3⟩ => ?_
  subst e
  refine wpAny_truthy_bool ?_
  cases t with
  | false => exact kk _ h3 t3 n3 F3 N3 ((X1.trans X2).trans X3) ⟨_, .bool _, by simpa using p3⟩
  | true =>
    rw [if_pos rfl] at p3
    refine chain_last (p3 c _ m own n3 hc ok ((((S.next F1 N1 X1)).next F2 N2 X2).next F3 N3 X3) _ _ fun d h4 t4 n4 F4 N4 X4 ⟨w, D4, p4⟩ => ?_)
    refine p4 n c _ m own n4 v d ok F4 N4 (B2.mono fun p hp => X4.sub p (X3.sub p hp)) D4 _ _ fun r h5 t5 n5 F5 N5 X5 ⟨t, e, p5⟩ => ?_
    subst e
    exact kk _ h5 t5 n5 F5 N5 ((((X1.trans X2).trans X3).trans X4).trans X5) ⟨_, .bool _, p5⟩
end
section
variable {sc : Scope} {n : Nat} {ρ : Rho} {Ψ : Dat → Prop} {Φ : PF → Om → Rho → Prop}
theorem datAll_rep {news : Led} {vs : List Value} {ds : List Dat} (D : DatAll news vs ds) : ∀ k : Nat, DatAll news (List.replicate k vs).flatten (List.replicate k ds).flatten
  | 0 => by simpa using DatAll.nil
  | k + 1 => by simpa [List.replicate_succ] using D.append (datAll_rep D k)
theorem PBin.repL {as : List Dat} {y : Int} (h0 : 0 ≤ y) (hl : as.length * y.toNat ≤ 256) (h1 : y ≤ 256) (h : Ψ (.list (List.replicate y.toNat as).flatten)) : PBin .Mult (.list as) (.int y) Ψ := by
  intro n c s m own news u v ok F N A B Q E kk
  cases B
  cases A with
  | list ma Da =>
    rename_i l vs kk1
    refine KMa.mul F N (isList_of N ma) (by walk_at "ar") (by walk_at "ar") (by rw [Da.length]; exact hl) rfl (fun D h' F' N' hD => ?_)
    refine kk _ h' s.toks ((D, W.listOf _ 0) :: news) F' (News_swap N') ⟨fun p hp => .tail _ hp, fun p hp => ?_⟩ ⟨_, .list (.head _) ((datAll_rep Da _).mono fun p hp => .tail _ hp), h⟩
    rcases List.mem_cons.mp hp with rfl | hp
    · exact .inr fun q hq => Nat.ne_of_lt (hD q (List.mem_append_left _ hq))
    · exact .inl hp
/-- two lists make a list of one's own -/
theorem PS1.catOwn {x : Str} {p bp pos : Pos} {l r : Expr} (hn : nameIs sc x .local = true)
    (h : PE sc n ρ l fun a => PE sc n ρ r fun b => ∃ as bs, a = .list as ∧ b = .list bs ∧ as.length + bs.length ≤ 10000 ∧ Φ .next (some (x, as ++ bs)) (ρ.filter fun q => !(q.1 == x))) : PS1 sc n none ρ (.Assign [.Name x p] (.BinOp l .Add r bp) pos) Φ := by
  intro c s m own news Q E hcs ok S kk
  have S0 : St c ρ own news m s := ⟨S.F, S.N, S.R⟩
  refine wpAny_Assign_Name (wpAny_BinOp (h c s m own news hcs ok S0 _ _ fun u h1 t1 n1 F1 N1 X1 ⟨a, A1, p1⟩ => ?_)) rfl
  refine p1 c _ m own n1 hcs ok (S0.next F1 N1 X1) _ _ fun v h2 t2 n2 F2 N2 X2 ⟨b, B2, as, bs, ea, eb, hl, p2⟩ => ?_
  subst ea; subst eb
  have A2 := A1.mono X2.sub
  cases A2 with
  | list ma Da =>
    cases B2 with
    | list mb Db =>
      have X : Ext own news n2 := X1.trans X2
      refine add_arrays F2 N2 (isList_of N2 ma) (isList_of N2 mb) (fun h3 F3 N3 => ?_) (by
        simp only [List.size_toArray]
        rw [Da.length, Db.length]
        exact Nat.le_trans hl (by decide))
      have lt1 : ∀ q ∈ own ++ n2, q.1 < h2.objs.size := fun q hq => Heap.lt_size (N2 q hq).1
      refine wpAny_storeName_local (by show c.env.scope.names.lookup x = _; rw [hcs]; exact nameIs_kind hn) F3.ns (fun h4 hn4 hs4 => ?_) (by rw [ok.kf]; rfl)
      refine kk .next h4 _ _ n2 .next (some (x, as ++ bs)) _ ⟨F3.set hn4 hs4, ?_, h2.objs.size, _, 0, by simp, Da.append Db, by simpa [W.listOf] using News.set N3 hs4, fun q hq => lt1 q (List.mem_append_left _ hq), fun q hq => Nat.ne_of_lt (lt1 q (List.mem_append_right _ hq))⟩ X trivial p2
      intro y d hy
      have hne : y ≠ x := by
        intro e; subst e
        have : ∀ ρ : Rho, (ρ.filter fun q => !(q.1 == y)).lookup y = Option.none := by
          intro ρ
          induction ρ with
          | nil => rfl
          | cons q r ih =>
            rw [List.filter_cons]
            split
            · rename_i hq
              obtain ⟨q1, q2⟩ := q
              rw [List.lookup_cons]
              have : (y == q1) = false := by
                simp at hq; simp; exact fun e => hq e.symm
              rw [this]; exact ih
            · exact ih
        rw [this] at hy; cases hy
      have hl : ρ.lookup y = some d := by
        have : ∀ ρ : Rho, (ρ.filter fun q => !(q.1 == x)).lookup y = ρ.lookup y := by
          intro ρ
          induction ρ with
          | nil => rfl
          | cons q r ih =>
            obtain ⟨q1, q2⟩ := q
            rw [List.filter_cons]
            split
            · rw [List.lookup_cons, List.lookup_cons, ih]
            · rename_i hq
              have : q1 = x := by simpa using hq
              subst this
              rw [List.lookup_cons, ih]
              have : (y == q1) = false := by simpa using hne
              rw [this]
        rw [this] at hy; exact hy
      obtain ⟨v, a, b⟩ := S.R y d hl
      exact ⟨v, by simp [hne, a], b.mono X.sub⟩
end
section
variable {sc : Scope} {n : Nat} {ρ : Rho} {Ψ : Dat → Prop} {Φ : PF → Om → Rho → Prop}

/-! repr of a pair of numbers -/
noncomputable def pairT (x y : Nat) : List Nat := (PyData.shown (.tuple [.int x, .int y])).cps.toList
theorem shown_int_len {x : Nat} (h : x < 2 ^ 1900) : (PyData.shown (.int (x : Int))).length ≤ 1000 := by
  show (Str.ofString (toString (x : Int))).length ≤ 1000
  rw [dec_tx, tx_length, dec_nat]; exact dg_short h
theorem PCall.reprP {x y : Nat} (hx : x < 2 ^ 1900) (hy : y < 2 ^ 1900) (h : Ψ (DS (pairT x y))) : PCall (.builtin "repr") [.tuple [.int x, .int y]] Ψ := by
  intro n c s m own news vs ok F N D Q E kk
  cases D with
  | cons A D =>
    cases D
    cases A with
    | @tuple a vs k _ hm D =>
      have rr : ReadsAll s.heap vs [.int x, .int y] [] := by
        cases D with
        | cons A D => cases D with
          | cons B D => cases D; cases A; cases B; exact .cons (.int _ _) (.cons (.int _ _) .nil)
      have r : Reads s.heap (.ref a) (.tuple [.int x, .int y]) [] := .tuple (N (_, _) (List.mem_append_right _ hm)).1 rfl rfl (by simpa using rr)
      have g1 := shown_int_len hx
      have g2 := shown_int_len hy
      have e1 := log2_small hx
      have e2 := log2_small hy
      refine repr_HN F N r rfl ?_ ok.gd ?_ (fun h' u tk F' N' => kk _ h' tk news F' N' .refl ⟨_, .str _ _, by rw [show DS (pairT x y) = Dat.str (PyData.shown (.tuple [.int x, .int y])) from congrArg Dat.str (tx_self _).symm] at h; exact h⟩) ?_
      · simp only [PyData.showable, PyData.showableAll, Bool.and_true, Bool.and_eq_true, decide_eq_true_eq]
        exact ⟨e1, e2⟩
      · have := ok.unr
        simp only [PyData.depth, PyData.depthAll]; walk_at "ar"
      · have e : PyData.shown (.tuple [.int (x : Int), .int (y : Int)]) = ("(" : Str) ++ (PyData.shown (.int (x : Int)) ++ ", " ++ PyData.shown (.int (y : Int))) ++ ((")" : String) : Str) := rfl
        rw [e]
        simp only [Str.length_append]
        have l1 : (("(" : String) : Str).length = 1 := rfl
        have l2 : ((", " : String) : Str).length = 2 := rfl
        have l3 : ((")" : String) : Str).length = 1 := rfl
        rw [sizeLine_eq]
        walk_at "ar"

theorem PCall.reprN {x : Nat} (hs : x < 2 ^ 1900) (h : Ψ (DS (dec (x : Int)))) : PCall (.builtin "repr") [.int x] Ψ := PCall.reprI (log2_small hs) h
/-- two lists that are the same -/
theorem PCmp.neLs {ds es : List Dat} {Θ : Bool → Prop} (e : es = ds) (h1 : ∀ d ∈ ds, kqdOk 8 d = true) (h : Θ false) : PCmp .NotEq (.list ds) (.list es) Θ := by
  subst e
  exact PCmp.neL h1 h1 (by simpa using h)
/-! a for over the data of a list -/
theorem PS1.forM {α : Type} {target iter : Expr} {body : List Stmt} {pos : Pos} (L : List α) (f : α → Dat) (P : α → Prop) (J : Rho → Prop) (hi : notSet iter = true) (hP : ∀ a ∈ L, P a)
    (h : PE sc n ρ iter fun d => d = .list (L.map f) ∨ d = .tuple (L.map f)) (h0 : J ρ)
    (turn : ∀ i a ρ, P a → J ρ → PA sc n none ρ target (f a) fun ρ' => PS sc n none ρ' body (TurnF i (fun _ => J) Φ)) (fin : ∀ ρ, J ρ → Φ .next none ρ) : PS1 sc n none ρ (.For target iter body [] pos) Φ := by
  refine PS1.forL hi (h.mono fun d hd => ⟨L.map f, hd, fun _ => J, ForJ.mk fun i ρ hi hJ => ?_, h0, fin⟩)
  rw [List.length_map] at hi
  have e : (L.map f).getD i Dat.none = f L[i] := by simp [List.getD_eq_getElem?_getD, hi]
  show PA sc n none ρ target ((L.map f).getD i Dat.none) _
  rw [e]
  exact turn i _ ρ (hP _ (List.getElem_mem hi)) hJ
end
/-! the places that a slice picks -/
noncomputable def pick {α : Type} (l : List α) (lo hi st : Option Int) : List α := (sliceRange (sliceBounds lo hi st l.length).1 (sliceBounds lo hi st l.length).2.1 (sliceBounds lo hi st l.length).2.2).filterMap (l[·]?)
theorem pick_mem {α : Type} {l : List α} {lo hi st : Option Int} {a : α} (h : a ∈ pick l lo hi st) : a ∈ l := by
  obtain ⟨i, _, hi⟩ := List.mem_filterMap.mp h
  exact List.mem_of_getElem? hi
theorem pick_map {α β : Type} (f : α → β) (l : List α) (lo hi st : Option Int) : pick (l.map f) lo hi st = (pick l lo hi st).map f := by
  unfold pick
  rw [List.length_map, List.map_filterMap]
  congr 1
  funext i
  rw [List.getElem?_map]
theorem pick_len {α : Type} (l : List α) (lo hi st : Option Int) : (pick l lo hi st).length ≤ l.length := by
  have h := slicePick_size_le (l.map fun _ => Value.none).toArray lo hi st
  have e : (slicePick (l.map fun _ => Value.none).toArray lo hi st).toList = pick (l.map fun _ => Value.none) lo hi st := by simp [slicePick, pick]
  rw [pick_map] at e
  have := congrArg List.length e
  simp only [Array.length_toList, List.length_map, List.size_toArray] at this h
  walk_at "ar"
theorem datAll_places {nw : Led} {vs : List Value} {ds : List Dat} (D : DatAll nw vs ds) : ∀ js : List Nat, DatAll nw (js.filterMap (vs[·]?)) (js.filterMap (ds[·]?))
  | [] => .nil
  | j :: js => by
    have ih := datAll_places D js
    by_cases hj : j < ds.length
    · obtain ⟨v, hv, hd⟩ := D.get hj
      rw [List.filterMap_cons, List.filterMap_cons, hv, List.getElem?_eq_getElem hj]
      exact .cons hd ih
    · have hv : vs[j]? = none := by rw [List.getElem?_eq_none_iff, D.length]; walk_at "ar"
      have hd : ds[j]? = none := by rw [List.getElem?_eq_none_iff]; walk_at "ar"
      rw [List.filterMap_cons, List.filterMap_cons, hv, hd]
      exact ih
theorem datAll_pick {nw : Led} {vs : List Value} {ds : List Dat} (D : DatAll nw vs ds) (lo hi st : Option Int) : DatAll nw (slicePick vs.toArray lo hi st).toList (pick ds lo hi st) := by
  have e : (slicePick vs.toArray lo hi st).toList = (sliceRange (sliceBounds lo hi st ds.length).1 (sliceBounds lo hi st ds.length).2.1 (sliceBounds lo hi st ds.length).2.2).filterMap (vs[·]?) := by
    simp [slicePick, D.length]
  rw [e]
  exact datAll_places D _

theorem tailOps {prog : Program} {w : World} {A : Around} {E : Value → Shared → Prop} {s : Shared} {value slice : Expr} {o i : Value} {T id : String} {ops : List Value} {Q : Value → Shared → Prop} (hT : s.TypeIs o T)
    (hl : typeLookup (.type T) "__getitem__" = pure (some (.builtin id))) (h : wpAny (model prog w) A (getItem o i) Q E s) (hs : subscripted slice false o i = operate ops (getItem o i)) :
    wpAny (model prog w) A (subscriptTail value slice o i) Q E s := by
  unfold subscriptTail
  refine wpAny_bind ?_
  rw [getitemInPython_of_ne hT.not_modules]
  refine wpAny_bind (wpAny_specialOf hT hl ?_)
  have fin : wpAny (model prog w) A (subscripted slice false o i) (fun r s₃ => wpAny (model prog w) A (letTemporaryGo value o r >>= fun _ => pure r) Q E s₃) E s := by
    rw [hs]
    exact wpAny_operating (wpAny_mono h (fun r s₃ h₃ => wpAny_bind (wpAny_letTemporaryGo (wpAny_pure h₃))) fun _ _ x => x)
  first
    | exact wpAny_pure (wpAny_bind fin)
    | exact wpAny_bind (wpAny_pure (wpAny_bind fin))
    | exact wpAny_bind fin

section
variable {sc : Scope} {n : Nat} {ρ : Rho} {Ψ : Dat → Prop} {Φ : PF → Om → Rho → Prop}
theorem PE.pickSN {v l k : Expr} {p pos : Pos} (h : PE sc n ρ v fun d => PE sc n ρ l fun e => PE sc n ρ k fun f => ∃ ds x y, d = .list ds ∧ e = .int x ∧ f = .int y ∧ y ≠ 0 ∧ ds.length ≤ 10000 ∧ Ψ (.list (pick ds (some x) Option.none (some y)))) :
    PE sc n ρ (.Subscript v (.Slice (some l) Option.none (some k) p) pos) Ψ := by
  intro c s m own news hc ok S Q E kk
  refine Subscript_ (h c s m own news hc ok S _ _ fun w h1 t1 n1 F1 N1 X1 ⟨d, A1, p1⟩ => ?_)
  refine wpAny_Slice (evalPart_some_step (p1 c _ m own n1 hc ok (S.next F1 N1 X1) _ _ fun w2 h2 t2 n2 F2 N2 X2 ⟨e, B2, p2⟩ => ?_))
  refine evalPart_none_step ?_
  refine evalPart_some_step (p2 c _ m own n2 hc ok ((S.next F1 N1 X1).next F2 N2 X2) _ _ fun w3 h3 t3 n3 F3 N3 X3 ⟨f, C3, ds, x, y, ed, ee, ef, hy, hl, p3⟩ => ?_)
  subst ed; subst ee; subst ef
  have A3 := (A1.mono X2.sub).mono X3.sub
  cases A3 with
  | @list a vs kk1 _ hm D =>
    obtain ⟨tx, rfl⟩ : ∃ tx, w2 = .int x tx := by cases B2; exact ⟨_, rfl⟩
    obtain ⟨ty, rfl⟩ : ∃ ty, w3 = .int y ty := by cases C3; exact ⟨_, rfl⟩
    have hL : h3.IsList a vs.toArray := isList_of N3 hm
    have hsz : vs.toArray.size ≤ sizeLine := by rw [List.size_toArray, D.length]; exact Nat.le_trans hl (by decide)
    refine tailOps (T := "list") (Heap.IsList.typeIs (s := ⟨_, _, _, _, _⟩) (hL.push _)) list_getitem_lookup (wpAny_getItem_list_slice (s := ⟨_, _, _, _, _⟩) (hL.push _) (Heap.IsSliceOf.new ..) (.int x tx) .none (.int y ty) (by simpa using hy) ?_ hsz) rfl
    have N4 := News.push (F3.push { cls := .type "slice", data := .fields #[.int x tx, .none, .int y ty] }) (N3.grown fun _ _ e => Heap.get?_push_of_some _ e) { cls := .type "list", data := .seq (slicePick vs.toArray (some x) Option.none (some y)) }
    refine kk _ _ t3 ((_, _) :: n3) ((F3.push _).push _) (News_swap N4) (((X1.trans X2).trans X3).trans ?_) ⟨_, .list (vs := (slicePick vs.toArray (some x) Option.none (some y)).toList) (n := 0) (by rw [Array.toArray_toList]; exact .head _) ((datAll_pick D _ _ _).mono fun p hp => .tail _ hp), p3⟩
    exact .cons fun q hq => Nat.ne_of_lt <| by
      show q.1 < (Heap.push _ _).objs.size
      rw [Heap.size_push]
      exact Nat.lt_succ_of_lt (Heap.lt_size (N3 q (List.mem_append_left _ hq)).1)

/-! a sum -/
theorem PCall.sum {ns : List Int} (h : Ψ (.int ns.sum)) : PCall (.builtin "sum") [.list (ns.map Dat.int)] Ψ := by
  intro n c s m own news vs ok F N D Q E kk
  cases D with
  | cons A D =>
    cases D
    cases A with
    | @list a ws k _ hm D =>
      have hi := intsAre_of D
      have hl : s.heap.IsList a ws.toArray := isList_of N hm
      obtain ⟨xs, e⟩ := hi.allInts.items
      have hs : ns.sum = preSum (numAt xs) xs.size := by
        have := hi.numsOf
        rw [show ws = ws.toArray.toList from rfl, e, nums_intItems] at this
        rw [← this, preSum_eq, List.take_of_length_le (by simp)]
      rw [e] at hl
      rw [hs] at h
      exact sum_intListG ok.hh hl fun h' tk t' hk => kk _ h' tk news (F.keeps hk) (N.grown hk) .refl ⟨_, .int _ _, h⟩
end
/-! comprehensions over whole numbers -/
noncomputable def ofPyS : PyData → Dat
  | .int i => .int i
  | .str x => .str x
  | .bool b => .bool b
  | _ => .none
theorem carried_in {nw : Led} {v : Value} {d : PyData} (h : Carried v d) : DatIn nw v (ofPyS d) := by
  cases h with
  | int i t => exact .int _ _
  | bool b => exact .bool _
  | str x t => exact .str _ _
  | none => exact .none
theorem carriedAll_in {nw : Led} : ∀ {vs : List Value} {ds : List PyData}, CarriedAll vs ds → DatAll nw vs (ds.map ofPyS)
  | _, _, .nil => .nil
  | _, _, .cons h r => .cons (carried_in h) (carriedAll_in r)
noncomputable def compOk (sc : Scope) (x : Str) : Bool :=
  sc.kind == .function && sc.names.all (fun y => y.2 != .free) && sc.names.all (fun y => y.2 != .cell) && sc.names.all (fun y => y.2 != .local || sc.names.lookup y.1 == some .local) && sc.names.lookup x == some .local
theorem compOk_iff {sc : Scope} {x : Str} (h : compOk sc x = true) : sc.kind = .function ∧ (∀ y ∈ sc.names, y.2 ≠ .free) ∧ (∀ y ∈ sc.names, y.2 ≠ .cell) ∧ (∀ y ∈ sc.names, y.2 = .local → sc.names.lookup y.1 = some .local) ∧ sc.names.lookup x = some .local := by
  simp only [compOk, Bool.and_eq_true, beq_iff_eq, List.all_eq_true, bne_iff_ne, ne_eq, Bool.or_eq_true] at h
  obtain ⟨⟨⟨⟨h1, h2⟩, h3⟩, h4⟩, h5⟩ := h
  exact ⟨h1, h2, h3, fun y hy hl => (h4 y hy).resolve_left fun hn => hn hl, h5⟩
theorem relabel_plain {scope : Scope} {env : Env} (h : ∀ y ∈ scope.names, y.2 ≠ .free) : relabel scope env = scope := by
  unfold relabel
  rw [map_eq_self (l := scope.names) fun x hx => by
    obtain ⟨n, k⟩ := x
    have : (k == NameKind.free) = false := by simpa using h _ hx
    simp [this]]
noncomputable def EltOk (elt : Expr) (scope : Scope) (x : Str) (a : Int) (d : PyData) : Prop :=
  ∀ (n : Nat) (c : FC) (C : Addr) (t : Tok) (s₂ : Shared) (m₂ : Str → Option Value) (E' : Value → Shared → Prop), c.Ok n → (∀ b o, c.h₀.get? b = some o → s₂.heap.get? b = some o) → s₂.heap.Ns C m₂ → m₂ x = some (.int a t) →
    wpAny c.M c.A (eval elt (compEnvC scope [] C c.env)) (fun y s₃ => Carried y d ∧ Keeps s₂ s₃) E' s₂

section
variable {sc : Scope} {n : Nat} {ρ : Rho} {Ψ : Dat → Prop} {Φ : PF → Om → Rho → Prop}
theorem comp_den {c : FC} {m : Str → Option Value} {own news : Led} {s : Shared} {elt iter : Expr} {x : Str} {px pos : Pos} {scope : Scope} {ns : List Int} {g : Int → PyData} (ok : c.Ok n) (hco : compOk scope x = true) (hi : notSet iter = true) (hl : ns.length ≤ 10000)
    (hit : Den c m own news (eval iter c.env) (fun nw v => DatIn nw v (.list (ns.map Dat.int))) s) (helt : ∀ a ∈ ns, EltOk elt scope x a (g a)) :
    Den c m own news (eval (.ListComp elt [⟨.Name x px, iter, [], 0⟩] scope pos) c.env) (fun nw v => DatIn nw v (.list ((ns.map g).map ofPyS))) s := by
  obtain ⟨h1, h2, h3, h4, h5⟩ := compOk_iff hco
  intro Q E kk
  refine ListComp_DCn (K := .int) (cl := []) (pz := fun _ => true) (d := g) (h₀ := c.h₀) (L := c.L) (m := m) ok.hh (closureFor_none h2) h3 h1 h4 h5 (hit _ _ fun v h' tk' nw F N X D => ?_) (fun y => notSet_folds hi y)
  cases D with
  | @list a vs k _ hm D =>
    refine ⟨own ++ nw, a, vs, ns, rfl, isList_of N hm, (intsAre_of D).areOf, Nat.le_trans hl (by decide), F, N, ?_, ?_, ?_⟩
    · intro C a v s₂ m₂ E' _ _ _ _ _ _
      exact wpAny_tests_nil ⟨rfl, s₂.heap, s₂.toks, rfl, fun _ _ e => e⟩
    · intro C a v s₂ m₂ E' _ ha hv _ hn hm hk
      obtain ⟨t, rfl⟩ := hv
      exact helt a ha n c C t s₂ m₂ E' ok (fun b o e => hk b o (F.keep b o e)) hn hm
    · intro D ys h2 tk F2 N2 hn _ hp hc
      have hDL := hp.ne_locals F2
      obtain ⟨⟨k, hD⟩, hne⟩ := hp
      have hc' : CarriedAll ys (ns.map g) := by rw [List.filter_eq_self.mpr (fun _ _ => rfl)] at hc; exact hc
      refine kk _ h2 tk ((D, W.listOf ys.toArray k) :: nw) F2 (News_swap ?_) (X.trans (.cons fun q hq => hne q (List.mem_append_left _ hq))) (.list (.head _) ((carriedAll_in hc').mono fun p hp => .tail _ hp))
      intro q hq
      rcases List.mem_cons.mp hq with rfl | hq
      · exact ⟨hD, hDL, hn⟩
      · exact N2 q hq
theorem PE.comp {elt iter : Expr} {x : Str} {px pos : Pos} {scope : Scope} (ns : List Int) (g : Int → PyData) (hco : compOk scope x = true) (hi : notSet iter = true) (hl : ns.length ≤ 10000) (helt : ∀ a ∈ ns, EltOk elt scope x a (g a))
    (h : PE sc n ρ iter fun d => d = .list (ns.map Dat.int)) (hk : Ψ (.list ((ns.map g).map ofPyS))) : PE sc n ρ (.ListComp elt [⟨.Name x px, iter, [], 0⟩] scope pos) Ψ := by
  intro c s m own news hc ok S Q E kk
  refine comp_den ok hco hi hl (fun Q E kk => h c s m own news hc ok S Q E fun v h' tk nw F N X ⟨d, A, p⟩ => kk v h' tk nw F N X (p ▸ A)) helt Q E fun v h' tk nw F N X D => kk v h' tk nw F N X ⟨_, D, hk⟩

theorem swaps_comp {elt : Expr} {gens : List Comprehension} {scope : Scope} {pos py : Pos} {y : Str} {l : Nat} {env : Env} (hk : env.scope.kind = .function) (ht : env.scope.names.lookup y = some .local) (hline : (py.line == pos.line) = true)
    (hf : (scope.names.any fun z => z.1 == y && (z.2 == .local || z.2 == .cell)) = false) : swapsWith (.ListComp elt gens scope pos) (some (.Name y py)) l env = pure true := by
  have hb : env.blockKind = .function := by unfold Env.blockKind; rw [hk]; rfl
  show (pure (env.blockKind == .function && env.kindOf y == some .local && py.line == pos.line && !(scope.names.any fun (n, k) => n == y && (k == .local || k == .cell))) : Sem Bool) = pure true
  have e : (scope.names.any fun (n, k) => n == y && (k == .local || k == .cell)) = false := hf
  rw [e, hb, hline, show env.kindOf y = some .local from ht]; rfl
/-- a name that gets a comprehension -/
theorem comp_assign {c : FC} {m : Str → Option Value} {own news : Led} {s : Shared} {elt iter : Expr} {x y : Str} {px py pos spos : Pos} {scope : Scope} {ns : List Int} {g : Int → PyData} {Q : Flow → Shared → Prop} {E : Value → Shared → Prop} (ok : c.Ok n) (hc : c.env.scope = sc)
    (hco : compOk scope x = true) (hi : notSet iter = true) (hl : ns.length ≤ 10000) (hy : nameIs sc y .local = true) (hline : (py.line == pos.line) = true) (hf : (scope.names.any fun z => z.1 == y && (z.2 == .local || z.2 == .cell)) = false)
    (hit : Den c m own news (eval iter c.env) (fun nw v => DatIn nw v (.list (ns.map Dat.int))) s) (helt : ∀ a ∈ ns, EltOk elt scope x a (g a))
    (kk : ∀ D h' tk' nw, Fr c.h₀ c.L h' (fun z => if z = y then some (.ref D) else m z) → News c.h₀ c.L h' (own ++ nw) → Ext own news nw → DatIn nw (.ref D) (.list ((ns.map g).map ofPyS)) → Q .next { s with heap := h', toks := tk' }) :
    wpAny c.M c.A (exec (.Assign [.Name y py] (.ListComp elt [⟨.Name x px, iter, [], 0⟩] scope pos) spos) c.env) Q E s := by
  obtain ⟨h1, h2, h3, h4, h5⟩ := compOk_iff hco
  have hyl : c.env.scope.names.lookup y = some .local := by rw [hc]; exact nameIs_kind hy
  refine Assign_ListComp_DCn (K := .int) (cl := []) (pz := fun _ => true) (d := g) (h₀ := c.h₀) (L := c.L) (m := m) (swaps_comp ok.kf hyl hline hf) rfl ok.hh (closureFor_none h2) h3 h1 h4 h5 hyl (by rw [ok.kf]; rfl) (hit _ _ fun v h' tk' nw F N X D => ?_) (fun y => notSet_folds hi y)
  cases D with
  | @list a vs k _ hm D =>
    refine ⟨own ++ nw, a, vs, ns, rfl, isList_of N hm, (intsAre_of D).areOf, Nat.le_trans hl (by decide), F, N, ?_, ?_, ?_⟩
    · intro C a v s₂ m₂ E' _ _ _ _ _ _
      exact wpAny_tests_nil ⟨rfl, s₂.heap, s₂.toks, rfl, fun _ _ e => e⟩
    · intro C a v s₂ m₂ E' _ ha hv _ hn hm hk
      obtain ⟨t, rfl⟩ := hv
      exact helt a ha n c C t s₂ m₂ E' ok (fun b o e => hk b o (F.keep b o e)) hn hm
    · intro D ys h2 tk F2 N2 hn _ hp hc
      have hDL := hp.ne_locals F2
      obtain ⟨⟨k, hD⟩, hne⟩ := hp
      have hc' : CarriedAll ys (ns.map g) := by rw [List.filter_eq_self.mpr (fun _ _ => rfl)] at hc; exact hc
      refine kk _ h2 tk ((D, W.listOf ys.toArray k) :: nw) F2 (News_swap ?_) (X.trans (.cons fun q hq => hne q (List.mem_append_left _ hq))) (.list (.head _) ((carriedAll_in hc').mono fun p hp => .tail _ hp))
      intro q hq
      rcases List.mem_cons.mp hq with rfl | hq
      · exact ⟨hD, hDL, hn⟩
      · exact N2 q hq

/-! the elements -/
theorem elt_call {scope : Scope} {x f : Str} {id : String} {a : Int} {p1 p2 p3 : Pos} {c : FC} {C : Addr} {t : Tok} {s₂ : Shared} {m₂ : Str → Option Value} {Q E' : Value → Shared → Prop} (hco : compOk scope x = true) (hg : scope.names.lookup f = some .globalImplicit) (hx : f ∈ builtinNames) (hb : bootBuiltins f = some (.builtin id)) (hd : (f == ("__debug__" : Str)) = false) (hdx : (x == ("__debug__" : Str)) = false)
    (ok : c.Ok n) (hk : ∀ b o, c.h₀.get? b = some o → s₂.heap.get? b = some o) (hn : s₂.heap.Ns C m₂) (hm : m₂ x = some (.int a t)) (h : wpAny c.M c.A (call (.builtin id) [.int a t]) Q E' s₂) :
    wpAny c.M c.A (eval (.Call (.Name f p1) [.Name x p2] [] p3) (compEnvC scope [] C c.env)) Q E' s₂ := by
  obtain ⟨h1, h2, h3, h4, h5⟩ := compOk_iff hco
  have e : (compEnvC scope [] C c.env).scope = scope := relabel_plain h2
  have ek : (compEnvC scope [] C c.env).scope.kind = .function := by rw [e]; exact h1
  refine Call_ (Name_function_global ek (by show (compEnvC scope [] C c.env).scope.names.lookup f = _; rw [e]; exact hg) (loadGlobal_builtin (mg := c.mg) (mb := c.mb) (v := .builtin id) ?_ (ok.S.free f hx) ?_ ?_ ?_) hd)
  · show s₂.heap.Ns c.env.globals c.mg
    rw [ok.gl]; exact ok.T.g.keeps hk
  · show s₂.heap.Ns c.env.builtins c.mb
    rw [ok.bl]; exact ok.T.b.keeps hk
  · rw [ok.T.builtins f ?_, hb]
    intro e; subst e; revert hx; decide +kernel
  · refine callWith_builtin1 (spliced_more (wpAny_Name (wpAny_loadName_local ek (by show (compEnvC scope [] C c.env).scope.names.lookup x = _; rw [e]; exact h5) hn hm ?_) hdx)) rfl rfl
    exact spliced_none h
theorem elt_abs {scope : Scope} {x : Str} {a : Int} {k : Nat} {p1 p2 p3 p4 : Pos} {rhs : Expr} (hco : compOk scope x = true) (hg : scope.names.lookup (Str.ofString "abs") = some .globalImplicit) (hdx : (x == ("__debug__" : Str)) = false) (hk0 : 0 < k)
    (hr : ∀ (c : FC) (env : Env) (s : Shared) (Q E : Value → Shared → Prop), (∀ t tk, Q (.int (k : Nat) t) { s with toks := tk }) → wpAny c.M c.A (eval rhs env) Q E s) :
    EltOk (.BinOp (.Call (.Name (Str.ofString "abs") p1) [.Name x p2] [] p3) .Mod rhs p4) scope x a (.int (a.natAbs % k : Nat)) := by
  intro n c C t s₂ m₂ E' ok hk hn hm
  refine wpAny_BinOp (elt_call hco hg (by decide +kernel) boot_abs (by decide +kernel) hdx ok hk hn hm ?_)
  refine call_abs_int fun u tk => ?_
  refine hr c _ _ _ _ fun t' tk' => ?_
  have ea : (if a < 0 then -a else a) = (a.natAbs : Int) := by split <;> walk_at "ar"
  rw [ea]
  refine mod_int' (by walk_at "ar") ?_
  rw [fmod_nat]
  exact ⟨.int _ _, _, _, rfl, fun _ _ e => e⟩
theorem elt_chr {scope : Scope} {x : Str} {a : Int} {p1 p2 p3 : Pos} (hco : compOk scope x = true) (hg : scope.names.lookup (Str.ofString "chr") = some .globalImplicit) (hdx : (x == ("__debug__" : Str)) = false) (h0 : 0 ≤ a) (h1 : a ≤ 1114111) :
    EltOk (.Call (.Name (Str.ofString "chr") p1) [.Name x p2] [] p3) scope x a (.str (tx [a.toNat])) := by
  intro n c C t s₂ m₂ E' ok hk hn hm
  refine elt_call hco hg (by decide +kernel) boot_chr (by decide +kernel) hdx ok hk hn hm ?_
  exact chr_of_range h0 h1 ⟨.str _ _, _, _, rfl, fun _ _ e => e⟩
end
section
variable {sc : Scope} {n : Nat} {ρ : Rho} {Ψ : Dat → Prop} {Φ : PF → Om → Rho → Prop}
/-- one of three defs, by its place -/
theorem PE.menu {f g h x : Str} {pf pg ph px p1 p2 pos : Pos} {i : Nat} (hf : nameIs sc f .globalImplicit = true) (hg : nameIs sc g .globalImplicit = true) (hh : nameIs sc h .globalImplicit = true) (hx : nameIs sc x .local = true)
    (hl : ρ.lookup x = some (.int i)) (hi : i < 3) (sf : FSpec n f [] Ψ) (sg : FSpec n g [] Ψ) (sh : FSpec n h [] Ψ) :
    PE sc n ρ (.Call (.Subscript (.List [.Name f pf, .Name g pg, .Name h ph] p1) (.Name x px) p2) [] [] pos) Ψ := by
  intro c s m own news hc ok S Q E kk
  obtain ⟨_, _, _, af, of, pm1, code1, doc1, f1, f2, f3, _⟩ := fnAt ok sf.1
  obtain ⟨_, _, _, ag, og, pm2, code2, doc2, g1, g2, g3, _⟩ := fnAt ok sg.1
  obtain ⟨_, _, _, ah, oh, pm3, code3, doc3, h1, h2, h3, _⟩ := fnAt ok sh.1
  have hgl : s.heap.Ns c.env.globals c.mg := by rw [ok.gl]; exact ok.T.g.keeps S.F.keep
  have knd : ∀ {z : Str} {k : NameKind}, nameIs sc z k = true → c.env.kindOf z = some k := fun hz => by show c.env.scope.names.lookup _ = _; rw [hc]; exact nameIs_kind hz
  obtain ⟨v, hv, D⟩ := S.R x _ hl
  obtain ⟨t, rfl⟩ : ∃ t, v = .int i t := by cases D; exact ⟨_, rfl⟩
  refine Call_ (Subscript_ (List_ (spliced_more (Name_function_global ok.kf (knd hf) (loadGlobal_global hgl f1 ?_) (nameIs_dbg hf)))))
  refine spliced_more (Name_function_global ok.kf (knd hg) (loadGlobal_global hgl g1 ?_) (nameIs_dbg hg))
  refine spliced_more (Name_function_global ok.kf (knd hh) (loadGlobal_global hgl h1 ?_) (nameIs_dbg hh))
  refine spliced_none ?_
  refine newList_N S.F S.N (fun h' F' N' => ?_) (show 3 ≤ _ by decide)
  refine wpAny_Name (wpAny_loadName_local ok.kf (knd hx) F'.ns hv ?_) (nameIs_dbg hx)
  have hL : h'.IsList s.heap.objs.size [Value.ref af, Value.ref ag, Value.ref ah].toArray := ⟨_, (N' (_, _) (.head _)).1, rfl, _, rfl⟩
  have N2 : News c.h₀ c.L h' (own ++ news) := fun q hq => N' q (.tail _ hq)
  have fin : ∀ (a : Addr) (o : Obj) (z : Str) (pm code doc : Value) (d : DefRec), [Value.ref af, Value.ref ag, Value.ref ah][i]? = some (.ref a) → FSpec n z [] Ψ → c.mg z = some (.ref a) → c.h₀.get? a = some o → o.data = .func (docDef d.name d.params d.body d.scope pm code doc) →
      wpAny c.M c.A (subscriptTail (.List [.Name f pf, .Name g pg, .Name h ph] p1) (.Name x px) (.ref s.heap.objs.size) (.int i t)) (fun fv s₁ => wpAny c.M c.A (callWith pos fv [] (backTo pos (starEach [] c.env)) []) Q E s₁) E { s with heap := h' } := by
    intro a o z pm code doc d ha sp hz ho hd
    refine item_listR (x := .ref a) hL (by walk_at "ar") (by walk_at "ar") (by simpa using ha) ?_ (sub_notSlice rfl)
    refine callWith_function (o := o) (fd := _) (evalArgs_empty ⟨⟨F'.keep _ _ ho, hd⟩, ?_⟩)
    exact sp.2 c _ m own news [] a ok F' N2 .nil hz _ _ fun r h2 t2 n2 F2 N2 X2 p2 => kk r h2 t2 n2 F2 N2 X2 p2
  match i, hi with
  | 0, _ => exact fin af of f _ _ _ _ rfl sf f1 f2 f3
  | 1, _ => exact fin ag og g _ _ _ _ rfl sg g1 g2 g3
  | 2, _ => exact fin ah oh h _ _ _ _ rfl sh h1 h2 h3
/-- the script's first items -/
theorem script_cut {c : FC} {m : Str → Option Value} {own news : Led} {s : Shared} {x : Str} {a : Addr} {vs : List Value} {ns : List Int} {k : Nat} {px p pk pos : Pos} {j : Nat} (ok : c.Ok n) (hc : c.env.scope = sc) (hx : nameIs sc x .local = true) (F : Fr c.h₀ c.L s.heap m) (N : News c.h₀ c.L s.heap (own ++ news))
    (hm : m x = some (.ref a)) (hL : c.h₀.IsList a vs.toArray) (hI : IntsAre vs ns) (hl : ns.length ≤ 10000) :
    Den c m own news (eval (.Subscript (.Name x px) (.Slice Option.none (some (.Constant (.int (k : Int)) j pk)) Option.none p) pos) c.env) (fun nw v => DatIn nw v (.list ((ns.take k).map Dat.int))) s := by
  intro Q E kk
  have knd : c.env.kindOf x = some .local := by show c.env.scope.names.lookup _ = _; rw [hc]; exact nameIs_kind hx
  have hL1 : s.heap.IsList a vs.toArray := hL.at fun o e => F.keep _ _ e
  refine Subscript_ (wpAny_Name (wpAny_loadName_local ok.kf knd F.ns hm ?_) (nameIs_dbg hx))
  refine wpAny_Slice (evalPart_none_step (evalPart_some_step (wpAny_Constant_int (evalPart_none_step ?_))))
  have hsz : vs.toArray.size ≤ sizeLine := by rw [List.size_toArray, hI.length]; exact Nat.le_trans hl (by decide)
  refine tailOps (T := "list") (Heap.IsList.typeIs (s := ⟨_, _, _, _, _⟩) (hL1.push _)) list_getitem_lookup (wpAny_getItem_list_slice (s := ⟨_, _, _, _, _⟩) (hL1.push _) (Heap.IsSliceOf.new ..) .none (.int (k : Int) _) .none (by simp) ?_ hsz) rfl
  have N4 := News.push (F.push { cls := .type "slice", data := .fields #[.none, .int (k : Int) s.toks, .none] }) (N.grown fun _ _ e => Heap.get?_push_of_some _ e) { cls := .type "list", data := .seq (slicePick vs.toArray Option.none (some (k : Int)) Option.none) }
  have hi := slice_ints_uptoW hI (y := (k : Int)) (by walk_at "ar")
  rw [Int.toNat_natCast] at hi
  have hD : ∀ nw : Led, DatAll nw (slicePick vs.toArray Option.none (some (k : Int)) Option.none).toList ((ns.take k).map Dat.int) := by
    intro nw
    revert hi
    generalize (slicePick vs.toArray Option.none (some (k : Int)) Option.none).toList = ws
    generalize ns.take k = zs
    intro hi
    induction hi with
    | nil => exact .nil
    | cons n t _ ih => exact .cons (.int _ _) ih
  refine kk _ _ (s.toks + 1) ((_, _) :: news) ((F.push _).push _) (News_swap N4) ?_ (.list (vs := (slicePick vs.toArray Option.none (some (k : Int)) Option.none).toList) (n := 0) (by rw [Array.toArray_toList]; exact .head _) (hD _))
  exact .cons fun q hq => Nat.ne_of_lt <| by
    show q.1 < (Heap.push _ _).objs.size
    rw [Heap.size_push]
    exact Nat.lt_succ_of_lt (Heap.lt_size (N q (List.mem_append_left _ hq)).1)
end
local macro_rules | `(tactic| walk_at "oa") => `(tactic| ((fail_if_success (fail_if_success omega)); first | lia | omega))
-- a name's value
local macro_rules | `(tactic| walk_at "lk") => `(tactic| first
  | with_reducible exact lk_here
  | with_reducible assumption
  | ((with_reducible refine' lk_filter ?ha ?hb); (case ha => decide +kernel); (case hb => walk_at "lk"))
  | ((with_reducible refine' lk_there ?ha ?hb); (case ha => decide +kernel); (case hb => walk_at "lk")))
-- a size, a sign, a length
local macro_rules | `(tactic| walk_at "sm") => `(tactic| first | with_reducible assumption | (show _ < _; decide +kernel))
local macro_rules | `(tactic| walk_at "pos") => `(tactic| first | with_reducible assumption | decide | walk_at "oa")
local macro_rules | `(tactic| walk_at "len") => `(tactic| first | with_reducible assumption | walk_at "oa" | decide | (simp only [List.length_append, List.length_cons, List.length_nil, List.length_take, List.length_drop, List.length_replicate] at *; walk_at "oa"))
local macro_rules | `(tactic| walk_at "mod") => `(tactic| first | (exact Nat.mod_lt _ (by decide)) | decide)
-- a constant of the top
local macro_rules | `(tactic| walk_at "gc") => `(tactic| first
  | exact gc_SIGN_BIT | exact gc_FRACTION_BITS | exact gc_FRACTION_MASK | exact gc_HIDDEN_BIT_dbits | exact gc_EXPONENT_MASK | exact gc_EXPONENT_SHIFT | exact gc_LEAST_POWER_dbits | exact gc_ZERO | exact gc_NEG_ZERO | exact gc_INF | exact gc_NAN
  | exact gc_LEAST_POWER_numshow | exact gc_HIDDEN_BIT_numshow | exact gc_FARTHEST | exact gc_law_none | exact gc_law_endless)
local macro_rules | `(tactic| walk_at "dx") => `(tactic| exact dx_mem (by decide +kernel))
-- one step by the syntax
local macro_rules | `(tactic| walk_at "nx") => `(tactic| first | with_reducible rfl | decide +kernel | (with_reducible refine omNe_some ?_; decide +kernel))
local macro_rules | `(tactic| walk_at "ax") => `(tactic| first | decide +kernel | (with_reducible refine omAll ?_; decide +kernel))
local macro_rules | `(tactic| walk_at "st") => `(tactic| first
  | ((with_reducible show PE _ _ _ _ _); first
    | with_reducible first | refine PE.intN ?_ | refine PE.int ?_ | refine PE.lit ?_
    | ((with_reducible refine' PE.name ?hn ?hx ?hk); (case hx => walk_at "lk"); (case hn => decide +kernel))
    | with_reducible refine PE.bin ?_
    | ((with_reducible refine' PE.globI ?hn ?hv ?hk); (case hv => with_reducible walk_at "gc"); (case hn => decide +kernel))
    | ((with_reducible refine' PE.globS ?hn ?hv ?hk); (case hv => with_reducible first | exact gc_BLANKS | exact gc_MORE_BLANKS | exact gc_ENDLESS); (case hn => decide +kernel))
    | ((with_reducible first | refine PE.cmp ?hk ?hm | refine PE.cmp2 ?hk ?hm | refine PE.item ?hm ?hk | refine PE.tuple ?hm ?hk | refine PE.list ?hm ?hk); (case hm => rfl))
    | with_reducible first | refine PE.cutSS ?_ | refine PE.cutNS ?_ | refine PE.cutSN ?_ | refine PE.bool ?_ | refine PE.none ?_ | refine PE.neg ?_ | refine PE.ifexp ?_ | refine PE.and1 ?_ | refine PE.and ?_ | refine PE.or ?_
    | ((with_reducible first | refine PE.meth PySem.F.slot_str_lstrip PySem.F.type_str_lstrip ?hb ?he ?hl ?hk | refine PE.meth PySem.F.slot_str_rstrip PySem.F.type_str_rstrip ?hb ?he ?hl ?hk | refine PE.meth PySem.F.slot_str_join PySem.F.type_str_join ?hb ?he ?hl ?hk); (case hb => rfl); (case he => rfl); (case hl => rfl))
    | ((with_reducible refine' PE.callB ?hn ?hx ?hb ?hs ?hk); (case hb => with_reducible first | exact boot_len | exact boot_abs | exact boot_max | exact boot_min | exact boot_ord | exact boot_chr | exact boot_repr | exact boot_sum); (case hn => decide +kernel); (case hx => decide +kernel); (case hs => rfl))
    | ((with_reducible refine' PE.callT ?hn ?hx ?hb ?hs ?hk); (case hb => with_reducible first | exact Pv.boot_str | exact Pv.boot_int); (case hn => decide +kernel); (case hx => decide +kernel); (case hs => rfl))
    | ((with_reducible refine' PE.callF ?hn ?hs ?hx ?hk); (case hx => walk_at "dx"); (case hn => decide +kernel); (case hs => rfl))
    | ((with_reducible refine' PE.callF0 ?hn ?hk); (case hn => decide +kernel)))
  | ((with_reducible show PEs _ _ _ _ _); first
    | with_reducible refine PEs.nil ?_
    | ((with_reducible refine PEs.cons ?hk ?he); (case he => rfl)))
  | ((with_reducible show PBin _ _ _ _); first
    | with_reducible refine PBin.addN ?_
    | ((with_reducible refine PBin.mulN ?h1 ?h2 ?hk); (case h1 => walk_at "sm"); (case h2 => walk_at "sm"))
    | ((with_reducible refine PBin.fdivN ?h1 ?h2 ?hk); (case h1 => walk_at "pos"); (case h2 => walk_at "sm"))
    | ((with_reducible refine PBin.modN ?h1 ?hk); (case h1 => walk_at "pos"))
    | ((with_reducible refine PBin.shlN ?h1 ?h2 ?hk); (case h1 => walk_at "sm"); (case h2 => first | decide | walk_at "oa"))
    | with_reducible first | refine PBin.shrN ?_ | refine PBin.andN ?_
    | ((with_reducible refine PBin.subN ?h1 ?hk); (case h1 => first | decide | walk_at "oa"))
    | ((with_reducible first | refine PBin.orN ?h1 ?hk | refine PBin.orS ?h1 ?hk); (case h1 => first | with_reducible assumption | walk_at "mod"))
    | ((with_reducible refine PBin.powN ?h1 ?h2 ?hk); (case h1 => decide); (case h2 => first | decide | walk_at "oa"))
    | ((with_reducible refine PBin.cat ?h1 ?hk); (case h1 => walk_at "len"))
    | with_reducible first | refine PBin.add ?_ | refine PBin.sub ?_)
  | ((with_reducible show PCmp _ _ _ _); with_reducible first
    | refine PCmp.eqN ?_ | refine PCmp.neN ?_ | refine PCmp.ltN ?_ | refine PCmp.leN ?_ | refine PCmp.gtN ?_ | refine PCmp.geN ?_ | refine PCmp.eqI ?_ | refine PCmp.neI ?_ | refine PCmp.ltI ?_ | refine PCmp.leI ?_ | refine PCmp.gtI ?_ | refine PCmp.geI ?_
    | refine PCmp.eqS ?_ | refine PCmp.neS ?_ | refine PCmp.leS ?_ | refine PCmp.in1 ?_ | refine PCmp.notIn1 ?_ | refine PCmp.isNoneN ?_ | refine PCmp.isNoneT ?_ | refine PCmp.isNotNoneN ?_ | refine PCmp.isNotNoneT ?_ | refine PCmp.isNotNoneS ?_ | refine PCmp.isNoneI ?_ | refine PCmp.isNone ?_ | refine PCmp.isNotNone ?_)
  | ((with_reducible show PT _ _ _ _ _); first
    | ((with_reducible first | refine PT.cmp ?hk ?hm | refine PT.cmp2 ?hk ?hm); (case hm => rfl))
    | with_reducible first | refine PT.not ?_ | refine PT.and_nil ?_ | refine PT.or_nil ?_ | refine PT.and ?_ | refine PT.or ?_
    | ((with_reducible refine PT.plain ?hk ?he); (case he => rfl)))
  | ((with_reducible show PS1 _ _ _ _ _ _); first
    | ((with_reducible refine PS1.assign ?hn ?hx ?hc ?hk); (case hn => decide +kernel); (case hx => walk_at "nx"); (case hc => rfl))
    | ((with_reducible first | refine PS1.assign2 ?hs ?hx ?hn ?hk | refine PS1.assign3 ?hs ?hx ?hn ?hk); (case hs => decide +kernel); (case hx => walk_at "ax"); (case hn => rfl))
    | ((with_reducible refine PS1.assignU ?hc ?ht ?hk); (case hc => rfl); (case ht => rfl))
    | ((with_reducible refine' PS1.aug ?hn ?hx ?hd ?hk); (case hd => walk_at "lk"); (case hn => decide +kernel); (case hx => walk_at "nx"))
    | with_reducible refine PS1.ret ?_)
  | ((with_reducible show PA _ _ _ _ _ _ _); first
    | ((with_reducible refine PA.name ?hn ?hx ?hk); (case hn => decide +kernel); (case hx => walk_at "nx"))
    | ((with_reducible first | refine PA.tup2 ?hx ?hk | refine PA.tup3 ?hx ?hk | refine PA.tup4 ?hx ?hk); (case hx => walk_at "ax")))
  | ((with_reducible show PCall _ _ _); first
    | with_reducible first | refine PCall.absN ?_ | refine PCall.abs ?_ | refine PCall.max ?_ | refine PCall.min ?_ | refine PCall.intB ?_ | refine PCall.ord1 ?_
    | ((with_reducible first | refine PCall.len ?h2 ?hk | refine PCall.lstrip ?h2 ?hk | refine PCall.rstrip ?h2 ?hk); (case h2 => walk_at "len"))
    | ((with_reducible refine PCall.strN ?h1 ?hk); (case h1 => with_reducible assumption)))
  | with_reducible first | refine PTruth.bool ?_ | refine PIn.addN ?_
  | ((with_reducible refine PIn.subN ?h1 ?hk); (case h1 => first | with_reducible assumption | walk_at "oa"))
  | with_reducible first | refine PIn.add ?_ | refine PIn.sub ?_
  | ((with_reducible refine PItem.txt ?h1 ?h2 ?hk); (case h1 => walk_at "len"); (case h2 => walk_at "len"))
  | ((with_reducible refine' PItem.tup ?h1 ?h2 ?hk); (case h1 => decide); (case h2 => rfl))
  | ((with_reducible first | refine PCut.ss ?h2 ?hk | refine PCut.ns ?h2 ?hk | refine PCut.sn ?h2 ?hk); (case h2 => walk_at "len"))
  | ((with_reducible refine' Exists.intro _ ⟨?h1, ?hk⟩); (case h1 => with_reducible rfl))
  | with_reducible first | refine Then.ret ?_ | refine ite_t ?_ | refine ite_f ?_ | refine ite_nt ?_ | refine ite_nf ?_ | refine Ends.ret ?_ | refine Ends.next ?_ | refine Turn.ret ?_ | refine TurnF.ret ?_ | refine Join.ret ?_)
local macro_rules | `(tactic| walk_at "ps") => `(tactic| first
  | walk_at "st"
  | with_reducible refine Then.next ?_
  | ((with_reducible show PS _ _ _ _ _ _); with_reducible first
    | refine PS.seq (st := Stmt.Assign _ _ _) ?_ | refine PS.seq (st := Stmt.Return _ _) ?_ | refine PS.seq (st := Stmt.AugAssign _ _ _ _) ?_ | refine PS.nil ?_))
-- an assignment alone
local macro_rules | `(tactic| walk_at "as") => `(tactic| ((with_reducible refine PS1.assign ?hn ?hx ?hc ?hk); (case hn => decide +kernel); (case hx => walk_at "nx"); (case hc => rfl)))
-- and into an if, a while, a for
local macro_rules | `(tactic| walk_at "pe") => `(tactic| first
  | walk_at "ps"
  | with_reducible refine PS1.ite ?_
  | with_reducible refine PS.seq ?_)
local macro_rules | `(tactic| walk_at "bind") => `(tactic| (intro vs hv pm code doc; first
  | (have q := len0 hv; subst q; rfl) | (obtain ⟨a, q⟩ := len1 hv; subst q; rfl) | (obtain ⟨a, b, q⟩ := len2 hv; subst q; rfl) | (obtain ⟨a, b, c, q⟩ := len3 hv; subst q; rfl) | (obtain ⟨a, b, c, d, q⟩ := len4 hv; subst q; rfl) | (obtain ⟨a, b, c, d, e, q⟩ := len5 hv; subst q; rfl)))
theorem width_spec {k : Nat} (N : Nat) {Ψ : Dat → Prop} (h : Ψ (.int (bl N : Nat))) : FSpec (k + 1) (Str.ofString "width") [.int N] Ψ := by
  refine FSpec.of_body (mem_rec (k := 12) rfl ⟨rfl, rfl, rfl⟩) (by walk_at "bind") (by decide +kernel) ?_
  change PS _ _ _ [(Str.ofString "n", .int N)] _ _
  repeat' walk_at "pe"
  refine PS1.loop (fun k ω ρ => ω = none ∧ ∃ x m : Nat, ρ.lookup (Str.ofString "n") = some (.int x) ∧ ρ.lookup (Str.ofString "many") = some (.int m) ∧ m + bl x = bl N ∧ k = x) N
    ⟨rfl, N, 0, by walk_at "lk", lk_here, by walk_at "ar", rfl⟩ ?_
  rintro k ω ρ ⟨rfl, x, m, hx, hm, he, rfl⟩
  repeat' walk_at "pe"
  refine ite_dec (fun hc => ?_) fun hc => ?_
  · repeat' walk_at "pe"
    have h1 : 1 * 2 ^ 64 ≤ k := by walk_at "ar"
    rw [Nat.one_mul] at h1
    refine Turn.next (k / 2 ^ 64) (Nat.div_lt_self (by walk_at "ar") (by decide)) ?_
    refine ⟨rfl, k / 2 ^ 64, m + 64, ?_, ?_, ?_, rfl⟩
    · walk_at "lk"
    · exact lk_here
    · have := bl_shr h1; walk_at "ar"
  · repeat' walk_at "pe"
    refine PS1.forL rfl ?_
    repeat' walk_at "pe"
    refine ⟨_, .inr rfl, fun i ρ => ∃ x m : Nat, ρ.lookup (Str.ofString "n") = some (.int x) ∧ ρ.lookup (Str.ofString "many") = some (.int m) ∧ m + bl x = bl N ∧ x < 2 ^ ([64, 32, 16, 8, 4, 2, 1].getD i 0), ?_, ?_, ?_⟩
    · refine ForJ.mk fun i ρ hi ⟨x, m, hx, hm, he, hlt⟩ => ?_
      refine PA.name (by decide +kernel) rfl ?_
      have hi' : i < 6 := hi
      obtain ⟨st, hst, hle, hnext⟩ : ∃ st : Nat, ([.int ((32 : Nat) : Int), .int ((16 : Nat) : Int), .int ((8 : Nat) : Int), .int ((4 : Nat) : Int), .int ((2 : Nat) : Int), .int ((1 : Nat) : Int)] : List Dat).getD i .none = .int st ∧ st ≤ 32 ∧ 2 ^ ([64, 32, 16, 8, 4, 2, 1].getD i 0) = 2 ^ st * 2 ^ ([64, 32, 16, 8, 4, 2, 1].getD (i + 1) 0) ∧ st = [64, 32, 16, 8, 4, 2, 1].getD (i + 1) 0 := by
        match i, hi' with
        | 0, _ => exact ⟨32, rfl, by decide, by decide, rfl⟩
        | 1, _ => exact ⟨16, rfl, by decide, by decide, rfl⟩
        | 2, _ => exact ⟨8, rfl, by decide, by decide, rfl⟩
        | 3, _ => exact ⟨4, rfl, by decide, by decide, rfl⟩
        | 4, _ => exact ⟨2, rfl, by decide, by decide, rfl⟩
        | 5, _ => exact ⟨1, rfl, by decide, by decide, rfl⟩
      rw [hst]
      have hx' : List.lookup (Str.ofString "n") ((Str.ofString "step", Dat.int st) :: ρ) = some (.int x) := by walk_at "lk"
      have hm' : List.lookup (Str.ofString "many") ((Str.ofString "step", Dat.int st) :: ρ) = some (.int m) := by walk_at "lk"
      repeat' walk_at "pe"
      rw [Nat.one_mul]
      refine ite_dec (fun hc => ?_) fun hc => ?_
      · repeat' walk_at "pe"
        have h1 : 2 ^ st ≤ x := by walk_at "ar"
        have hb := bl_shr h1
        refine TurnF.next ?_
        refine ⟨x / 2 ^ st, m + st, ?_, ?_, ?_, ?_⟩
        · walk_at "lk"
        · exact lk_here
        · walk_at "ar"
        · rw [hnext.1] at hlt
          exact Nat.div_lt_of_lt_mul hlt
      · repeat' walk_at "pe"
        refine TurnF.next ?_
        refine ⟨x, m, hx', hm', he, ?_⟩
        rw [← hnext.2]; walk_at "ar"
    · exact ⟨k, m, hx, hm, he, by show k < 2 ^ 64; walk_at "ar"⟩
    · rintro ρ ⟨x, m, hx, hm, he, hlt⟩
      repeat' walk_at "pe"
      have : x < 2 := hlt
      have := bl_small this
      have e : m + x = bl N := by walk_at "ar"
      rw [e]; exact h
theorem is_negative_spec {k : Nat} (b : Nat) {Ψ : Dat → Prop} (h : Ψ (.bool (b / 2 ^ 63 == 1))) : FSpec (k + 1) (Str.ofString "is_negative") [.int b] Ψ := by
  refine FSpec.of_body (mem_rec (k := 14) rfl ⟨rfl, rfl, rfl⟩) (by walk_at "bind") (by decide +kernel) ?_
  change PS _ _ _ [(Str.ofString "bits", .int b)] _ _
  repeat' walk_at "pe"
  exact h
theorem is_nan_spec {k : Nat} (b : Nat) {Ψ : Dat → Prop} (h : Ψ (.bool (decide (INFN < b % 2 ^ 63)))) : FSpec (k + 1) (Str.ofString "is_nan") [.int b] Ψ := by
  refine FSpec.of_body (mem_rec (k := 15) rfl ⟨rfl, rfl, rfl⟩) (by walk_at "bind") (by decide +kernel) ?_
  change PS _ _ _ [(Str.ofString "bits", .int b)] _ _
  repeat' walk_at "pe"
  exact h
theorem is_inf_spec {k : Nat} (b : Nat) {Ψ : Dat → Prop} (h : Ψ (.bool (b % 2 ^ 63 == INFN))) : FSpec (k + 1) (Str.ofString "is_inf") [.int b] Ψ := by
  refine FSpec.of_body (mem_rec (k := 16) rfl ⟨rfl, rfl, rfl⟩) (by walk_at "bind") (by decide +kernel) ?_
  change PS _ _ _ [(Str.ofString "bits", .int b)] _ _
  repeat' walk_at "pe"
  exact h
theorem is_zero_spec {k : Nat} (b : Nat) {Ψ : Dat → Prop} (h : Ψ (.bool (b % 2 ^ 63 == 0))) : FSpec (k + 1) (Str.ofString "is_zero") [.int b] Ψ := by
  refine FSpec.of_body (mem_rec (k := 17) rfl ⟨rfl, rfl, rfl⟩) (by walk_at "bind") (by decide +kernel) ?_
  change PS _ _ _ [(Str.ofString "bits", .int b)] _ _
  repeat' walk_at "pe"
  exact h
theorem pack_spec {k : Nat} (sg e f : Nat) (h1 : e < 2 ^ 11) (h2 : f < 2 ^ 52) (h3 : Sm sg) {Ψ : Dat → Prop} (h : Ψ (.int ((sg * 2 ^ 63 + e * 2 ^ 52 + f : Nat) : Int))) : FSpec (k + 1) (Str.ofString "pack") [.int sg, .int e, .int f] Ψ := by
  refine FSpec.of_body (mem_rec (k := 13) rfl ⟨rfl, rfl, rfl⟩) (by walk_at "bind") (by decide +kernel) ?_
  change PS _ _ _ [(Str.ofString "fraction", .int f), (Str.ofString "exponent", .int e), (Str.ofString "sign", .int sg)] _ _
  have he : Sm e := Nat.lt_trans h1 (by decide +kernel)
  have hlt : e * 2 ^ 52 < 2 ^ 63 := by walk_at "ar"
  repeat' walk_at "pe"
  have e1 : sg * 2 ^ 63 + e * 2 ^ 52 = (sg * 2 ^ 11 + e) * 2 ^ 52 := by walk_at "ar"
  rw [e1]
  refine PBin.orS h2 ?_
  rw [← e1]
  repeat' walk_at "pe"
  exact h
theorem signed_spec {k : Nat} (sg b : Nat) (hs : Sm sg) {Ψ : Dat → Prop} (h : Ψ (.int ((sg * 2 ^ 63 + b % 2 ^ 63 : Nat) : Int))) : FSpec (k + 1) (Str.ofString "signed") [.int sg, .int b] Ψ := by
  refine FSpec.of_body (mem_rec (k := 18) rfl ⟨rfl, rfl, rfl⟩) (by walk_at "bind") (by decide +kernel) ?_
  change PS _ _ _ [(Str.ofString "bits", .int b), (Str.ofString "sign", .int sg)] _ _
  repeat' walk_at "pe"
  refine PBin.or ?_
  rw [bitOr_comm, bitOr_apart _ _ 63 (Nat.mod_lt _ (by decide))]
  repeat' walk_at "pe"
  exact h
theorem parts_spec {k : Nat} (b : Nat) {Ψ : Dat → Prop} (h : Ψ (.tuple [.int (partsF b).1, .int (partsF b).2.1, .int (partsF b).2.2])) : FSpec (k + 1) (Str.ofString "parts") [.int b] Ψ := by
  refine FSpec.of_body (mem_rec (k := 19) rfl ⟨rfl, rfl, rfl⟩) (by walk_at "bind") (by decide +kernel) ?_
  change PS _ _ _ [(Str.ofString "bits", .int b)] _ _
  repeat' walk_at "pe"
  refine ite_eqN (fun hc => ?_) fun hc => ?_
  · repeat' walk_at "pe"
    unfold partsF at h
    rw [if_pos hc] at h
    exact h
  · repeat' walk_at "pe"
    unfold partsF at h
    rw [if_neg hc] at h
    exact h
theorem quotient_spec {k : Nat} (t d : Nat) (p : Int) (hd : 0 < d) (ht : t < 2 ^ 3000) (hd2 : d < 2 ^ 3000) (hp : -1074 ≤ p) (hp2 : p ≤ 3000) {Ψ : Dat → Prop} (h : Ψ (.tuple [.int (quotF t d p).1, .int (quotF t d p).2.1, .int (quotF t d p).2.2])) :
    FSpec (k + 1) (Str.ofString "quotient") [.int t, .int d, .int p] Ψ := by
  refine FSpec.of_body (mem_rec (k := 21) rfl ⟨rfl, rfl, rfl⟩) (by walk_at "bind") (by decide +kernel) ?_
  change PS _ _ _ [(Str.ofString "power", .int p), (Str.ofString "bottom", .int d), (Str.ofString "top", .int t)] _ _
  have st : Sm t := Nat.lt_of_lt_of_le ht (Nat.pow_le_pow_right (by decide) (by decide))
  have sd : Sm d := Nat.lt_of_lt_of_le hd2 (Nat.pow_le_pow_right (by decide) (by decide))
  repeat' walk_at "pe"
  refine ite_dec (fun hc => ?_) fun hc => ?_
  · have hc : (0 : Int) ≤ p := hc
    unfold quotF at h
    rw [if_pos hc] at h
    obtain ⟨q, rfl⟩ := Int.eq_ofNat_of_zero_le hc
    rw [Int.toNat_natCast] at h
    have hq : q ≤ 3000 := by walk_at "ar"
    have hs : Sm (d * 2 ^ q) := by
      have h1 : d * 2 ^ q < 2 ^ 3000 * 2 ^ q := Nat.mul_lt_mul_of_pos_right hd2 (Nat.two_pow_pos _)
      rw [← Nat.pow_add] at h1
      exact Nat.lt_of_lt_of_le h1 (Nat.pow_le_pow_right (by decide) (by walk_at "ar"))
    have hpos : 0 < d * 2 ^ q := Nat.mul_pos hd (Nat.two_pow_pos _)
    repeat' walk_at "pe"
    exact h
  · have hc : ¬ (0 : Int) ≤ p := hc
    unfold quotF at h
    rw [if_neg hc] at h
    obtain ⟨q, hq⟩ : ∃ q : Nat, -p = q := ⟨(-p).toNat, by walk_at "ar"⟩
    rw [hq, Int.toNat_natCast] at h
    repeat' walk_at "pe"
    rw [hq]
    repeat' walk_at "pe"
    exact h
theorem exact_spec {k : Nat} (b : Nat) {Ψ : Dat → Prop} (h : Ψ (.tuple [.int ((if (partsF b).1 = 1 then -((partsF b).2.1 : Int) else (partsF b).2.1) * 2 ^ (partsF b).2.2.toNat), .int (2 ^ (-(partsF b).2.2).toNat : Nat)])) (hp : (partsF b).2.2 ≤ 1000) : FSpec (k + 2) (Str.ofString "exact") [.int b] Ψ := by
  refine FSpec.of_body (mem_rec (k := 20) rfl ⟨rfl, rfl, rfl⟩) (by walk_at "bind") (by decide +kernel) ?_
  change PS _ _ _ [(Str.ofString "bits", .int b)] _ _
  obtain ⟨m0, hm0⟩ : ∃ m, m = (partsF b).2.1 := ⟨_, rfl⟩
  have hm : m0 < 2 ^ 53 := by
    rw [hm0]; unfold partsF
    have := Nat.mod_lt b (show 0 < 2 ^ 52 by decide)
    split <;> simp only <;> walk_at "ar"
  have hp2 : -1074 ≤ (partsF b).2.2 := by unfold partsF; split <;> simp only <;> walk_at "ar"
  repeat' walk_at "pe"
  refine parts_spec b ?_
  generalize partsF b = q at *
  obtain ⟨s, m, p⟩ := q
  simp only at *
  subst hm0
  repeat' walk_at "pe"
  refine ite_eqN (fun hc => ?_) fun hc => ?_
  · rw [if_pos hc] at h
    repeat' walk_at "pe"
    repeat' walk_at "pe"
    refine ite_dec (fun hc2 => ?_) fun hc2 => ?_
    · have hc2 : (0 : Int) ≤ p := hc2
      repeat' walk_at "pe"
      have hb : Builtin.Int.intBits (-(m0 : Int)) ≤ 53 := intBits_le_iff.mpr (by walk_at "ar")
      refine PBin.shl hc2 (by walk_at "ar") ?_
      repeat' walk_at "pe"
      have : (-p).toNat = 0 := by walk_at "ar"
      rw [this] at h; exact h
    · have hc2 : ¬ (0 : Int) ≤ p := hc2
      obtain ⟨q, hq⟩ : ∃ q : Nat, -p = q := ⟨(-p).toNat, by walk_at "ar"⟩
      repeat' walk_at "pe"
      rw [hq] at h ⊢
      have : p.toNat = 0 := by walk_at "ar"
      rw [this] at h
      repeat' walk_at "pe"
      simpa using h
  · rw [if_neg hc] at h
    repeat' walk_at "pe"
    refine ite_dec (fun hc2 => ?_) fun hc2 => ?_
    · have hc2 : (0 : Int) ≤ p := hc2
      repeat' walk_at "pe"
      have hb : Builtin.Int.intBits ((m0 : Int)) ≤ 53 := intBits_le_iff.mpr (by walk_at "ar")
      refine PBin.shl hc2 (by walk_at "ar") ?_
      repeat' walk_at "pe"
      have : (-p).toNat = 0 := by walk_at "ar"
      rw [this] at h; exact h
    · have hc2 : ¬ (0 : Int) ≤ p := hc2
      obtain ⟨q, hq⟩ : ∃ q : Nat, -p = q := ⟨(-p).toNat, by walk_at "ar"⟩
      repeat' walk_at "pe"
      rw [hq] at h ⊢
      have : p.toNat = 0 := by walk_at "ar"
      rw [this] at h
      repeat' walk_at "pe"
      simpa using h

theorem assembled_spec {k : Nat} (sg w : Nat) (p : Int) (hs : Sm sg) (hw : w ≤ 2 ^ 53) (hp : -1074 ≤ p) (hp2 : p ≤ 10000) {Ψ : Dat → Prop} (h : Ψ (.int (asmF sg w p : Nat))) : FSpec (k + 2) (Str.ofString "assembled") [.int sg, .int w, .int p] Ψ := by
  refine FSpec.of_body (mem_rec (k := 23) rfl ⟨rfl, rfl, rfl⟩) (by walk_at "bind") (by decide +kernel) ?_
  change PS _ _ _ [(Str.ofString "power", .int p), (Str.ofString "whole", .int w), (Str.ofString "sign", .int sg)] _ _
  unfold asmF at h
  have hinf : INFN % 2 ^ 63 = INFN := by decide
  repeat' walk_at "pe"
  refine ite_eqN (fun hc => ?_) fun hc => ?_
  · have hc : w = 2 ^ 53 := hc
    rw [if_pos hc, if_pos hc] at h
    simp only at h
    rw [if_neg (by decide)] at h
    repeat' walk_at "pe"
    refine ite_dec (fun hc2 => absurd hc2 (by decide)) fun hc2 => ?_
    repeat' walk_at "pe"
    refine ite_dec (fun hc3 => ?_) fun hc3 => ?_
    · repeat' walk_at "pe"
      refine signed_spec sg INFN hs ?_
      repeat' walk_at "pe"
      rw [hinf]
      rw [if_pos (by walk_at "ar")] at h; exact h
    · obtain ⟨e, he⟩ : ∃ e : Nat, p + ((1 : Nat) : Int) + ((1075 : Nat) : Int) = e := ⟨(p + 1 + 1075).toNat, by walk_at "ar"⟩
      rw [he] at hc3 ⊢
      have he2 : e < 2047 := by walk_at "ar"
      repeat' walk_at "pe"
      refine pack_spec sg e _ (by walk_at "ar") (by decide) hs ?_
      repeat' walk_at "pe"
      rw [if_neg (by walk_at "ar")] at h
      have : (p + 1 + 1075).toNat = e := by walk_at "ar"
      rw [this] at h; exact h
  · have hc : w ≠ 2 ^ 53 := hc
    rw [if_neg hc, if_neg hc] at h
    simp only at h
    repeat' walk_at "pe"
    refine ite_dec (fun hc2 => ?_) fun hc2 => ?_
    · rw [if_pos hc2] at h
      repeat' walk_at "pe"
      refine PBin.orS (k := 63) (by walk_at "ar") ?_
      repeat' walk_at "pe"
      exact h
    · rw [if_neg hc2] at h
      repeat' walk_at "pe"
      refine ite_dec (fun hc3 => ?_) fun hc3 => ?_
      · repeat' walk_at "pe"
        refine signed_spec sg INFN hs ?_
        repeat' walk_at "pe"
        rw [hinf]
        rw [if_pos (by walk_at "ar")] at h; exact h
      · obtain ⟨e, he⟩ : ∃ e : Nat, p + ((1075 : Nat) : Int) = e := ⟨(p + 1075).toNat, by walk_at "ar"⟩
        rw [he] at hc3 ⊢
        have he2 : e < 2047 := by walk_at "ar"
        repeat' walk_at "pe"
        refine pack_spec sg e _ (by walk_at "ar") (by walk_at "ar") hs ?_
        repeat' walk_at "pe"
        rw [if_neg (by walk_at "ar")] at h
        have : (p + 1075).toNat = e := by walk_at "ar"
        rw [this] at h; exact h

theorem bl_le_of_lt {n k : Nat} (h : n < 2 ^ k) : bl n ≤ k := by
  by_cases hn : n = 0
  · subst hn; exact Nat.zero_le _
  · have := bl_le hn
    apply Decidable.byContradiction; intro hh
    have := Nat.pow_le_pow_right (show 0 < 2 by decide) (show k ≤ bl n - 1 by walk_at "ar")
    walk_at "ar"
theorem quotF_eq (t d : Nat) (p : Int) : quotF t d p = (t * 2 ^ (-p).toNat / (d * 2 ^ p.toNat), t * 2 ^ (-p).toNat % (d * 2 ^ p.toNat), d * 2 ^ p.toNat) := by
  unfold quotF; split
  · have : (-p).toNat = 0 := by walk_at "ar"
    rw [this, Nat.pow_zero, Nat.mul_one]
  · have : p.toNat = 0 := by walk_at "ar"
    rw [this, Nat.pow_zero, Nat.mul_one]
theorem quot_half (t d : Nat) (p : Int) : (quotF t d (p + 1)).1 = (quotF t d p).1 / 2 := by
  rw [quotF_eq, quotF_eq]
  simp only
  rw [Nat.div_div_eq_div_mul]
  by_cases hp : 0 ≤ p
  · have e1 : (-p).toNat = 0 := by walk_at "ar"
    have e2 : (-(p + 1)).toNat = 0 := by walk_at "ar"
    have e3 : (p + 1).toNat = p.toNat + 1 := by walk_at "ar"
    rw [e1, e2, e3, Nat.pow_succ, Nat.mul_assoc]
  · have e1 : (-p).toNat = (-(p + 1)).toNat + 1 := by walk_at "ar"
    have e2 : p.toNat = 0 := by walk_at "ar"
    have e3 : (p + 1).toNat = 0 := by walk_at "ar"
    rw [e1, e2, e3, Nat.pow_succ, ← Nat.mul_assoc, Nat.pow_zero, Nat.mul_one, Nat.mul_div_mul_right _ _ (by decide)]
theorem quot_lt {t d : Nat} {p : Int} (hd : 0 < d) (hp : (bl t : Int) - bl d - 53 ≤ p) : (quotF t d p).1 < 2 ^ 54 := by
  rw [quotF_eq]
  simp only
  have hD : 0 < d * 2 ^ p.toNat := Nat.mul_pos hd (Nat.two_pow_pos _)
  refine (Nat.div_lt_iff_lt_mul hD).mpr ?_
  have h1 : t * 2 ^ (-p).toNat < 2 ^ (bl t + (-p).toNat) := by
    rw [Nat.pow_add]; exact Nat.mul_lt_mul_of_pos_right (bl_lt t) (Nat.two_pow_pos _)
  have hb : 0 < bl d := by unfold bl; rw [if_neg (by walk_at "ar")]; walk_at "ar"
  have h2 : 2 ^ (54 + (bl d - 1) + p.toNat) ≤ 2 ^ 54 * (d * 2 ^ p.toNat) := by
    rw [Nat.pow_add, Nat.pow_add, Nat.mul_assoc]
    exact Nat.mul_le_mul_left _ (Nat.mul_le_mul_right _ (bl_le (by walk_at "ar")))
  have h3 : 2 ^ (bl t + (-p).toNat) ≤ 2 ^ (54 + (bl d - 1) + p.toNat) := Nat.pow_le_pow_right (by decide) (by walk_at "ar")
  walk_at "ar"
theorem p1_lt {t d : Nat} (hd : 0 < d) : (quotF t d (p1F t d)).1 < 2 ^ 53 := by
  have h0 : (quotF t d (p0F t d)).1 < 2 ^ 54 := quot_lt hd (by unfold p0F; walk_at "ar")
  unfold p1F
  split
  · rw [quot_half]; walk_at "ar"
  · walk_at "ar"

theorem round_ratio_spec {k : Nat} (sg t d : Nat) (hs : Sm sg) (hd : 0 < d) (ht : t < 2 ^ 3000) (hd2 : d < 2 ^ 3000) {Ψ : Dat → Prop} (h : Ψ (.int (rrF sg t d : Nat))) : FSpec (k + 3) (Str.ofString "round_ratio") [.int sg, .int t, .int d] Ψ := by
  refine FSpec.of_body (mem_rec (k := 22) rfl ⟨rfl, rfl, rfl⟩) (by walk_at "bind") (by decide +kernel) ?_
  change PS _ _ _ [(Str.ofString "bottom", .int d), (Str.ofString "top", .int t), (Str.ofString "sign", .int sg)] _ _
  unfold rrF at h
  repeat' walk_at "pe"
  refine ite_eqN (fun hc => ?_) fun hc => ?_
  · have hc : t = 0 := hc
    rw [if_pos hc] at h
    repeat' walk_at "pe"
    exact h
  have hc : t ≠ 0 := hc
  rw [if_neg hc] at h
  have bt : bl t ≤ 3000 := bl_le_of_lt ht
  have bd : bl d ≤ 3000 := bl_le_of_lt hd2
  repeat' walk_at "pe"
  refine width_spec t ?_
  repeat' walk_at "pe"
  refine width_spec d ?_
  repeat' walk_at "pe"
  have e0 : (if (-1074 : Int) > (bl t : Int) - (bl d : Int) - ((53 : Nat) : Int) then -1074 else (bl t : Int) - (bl d : Int) - ((53 : Nat) : Int)) = p0F t d := by unfold p0F; split <;> walk_at "ar"
  rw [e0]
  have hp1 : -1074 ≤ p0F t d := by unfold p0F; walk_at "ar"
  have hp2 : p0F t d ≤ 2999 := by unfold p0F; walk_at "ar"
  repeat' walk_at "pe"
  refine quotient_spec t d (p0F t d) hd ht hd2 hp1 (by walk_at "ar") ?_
  repeat' walk_at "ps"
  have small : ∀ p : Int, -1074 ≤ p → p ≤ 3000 → Sm (quotF t d p).2.1 := by
    intro p h1 h2
    rw [quotF_eq]; simp only
    have hD : 0 < d * 2 ^ p.toNat := Nat.mul_pos hd (Nat.two_pow_pos _)
    have e1 : d * 2 ^ p.toNat < 2 ^ 3000 * 2 ^ p.toNat := Nat.mul_lt_mul_of_pos_right hd2 (Nat.two_pow_pos _)
    rw [← Nat.pow_add] at e1
    have e2 := Nat.pow_le_pow_right (show 0 < 2 by decide) (show 3000 + p.toNat ≤ 8000 by walk_at "ar")
    exact Nat.lt_trans (Nat.mod_lt _ hD) (Nat.lt_of_lt_of_le e1 e2)
  have h1 := p1_lt (t := t) hd
  have hq1 : -1074 ≤ p1F t d ∧ p1F t d ≤ 3000 := by unfold p1F; split <;> walk_at "ar"
  have quo := fun (kk : Nat) (p : Int) (h1 : -1074 ≤ p) (h2 : p ≤ 3000) (Θ : Dat → Prop) (h : Θ _) => quotient_spec (k := kk) t d p hd ht hd2 h1 h2 (Ψ := Θ) h
  clear ht hd2 e0 bt bd
  refine PS.seqJoin (fun ω ρ => ω = none ∧ ρ.lookup (Str.ofString "whole") = some (.int (quotF t d (p1F t d)).1) ∧ ρ.lookup (Str.ofString "rest") = some (.int (quotF t d (p1F t d)).2.1) ∧ ρ.lookup (Str.ofString "unit") = some (.int (quotF t d (p1F t d)).2.2) ∧
      ρ.lookup (Str.ofString "power") = some (.int (p1F t d)) ∧ ρ.lookup (Str.ofString "sign") = some (.int sg)) ?_ ?_
  · repeat' walk_at "pe"
    refine ite_dec (fun hc2 => ?_) fun hc2 => ?_
    · have hp : p1F t d = p0F t d + ((1 : Nat) : Int) := by unfold p1F; rw [if_pos (by walk_at "ar")]; rfl
      repeat' walk_at "pe"
      refine quo _ _ (by walk_at "ar") (by walk_at "ar") _ ?_
      repeat' walk_at "pe"
      rw [← hp]
      (refine Join.next ?_; refine ⟨rfl, ?_, ?_, ?_, ?_, ?_⟩ <;> walk_at "lk")
    · have hp : p1F t d = p0F t d := by unfold p1F; rw [if_neg (by walk_at "ar")]
      rw [hp]
      repeat' walk_at "pe"
      (refine Join.next ?_; refine ⟨rfl, ?_, ?_, ?_, ?_, ?_⟩ <;> walk_at "lk")
  · rintro ω ρ ⟨rfl, w1, w2, w3, w4, w5⟩
    have sr := small (p1F t d) hq1.1 hq1.2
    revert h h1 sr w1 w2 w3
    generalize quotF t d (p1F t d) = q
    obtain ⟨a, r, u⟩ := q
    simp only
    intro h h1 sr w1 w2 w3
    have hup : upF (a, r, u) ≤ a + 1 := by unfold upF; split <;> simp only <;> walk_at "ar"
    refine PS.seqJoin (fun ω ρ => ω = none ∧ ρ.lookup (Str.ofString "whole") = some (.int (upF (a, r, u))) ∧ ρ.lookup (Str.ofString "power") = some (.int (p1F t d)) ∧ ρ.lookup (Str.ofString "sign") = some (.int sg)) ?_ ?_
    · have yes : 2 * r > u ∨ (2 * r = u ∧ a % 2 = 1) → upF (a, r, u) = a + 1 := fun hh => by unfold upF; rw [if_pos hh]
      have no : ¬ (2 * r > u ∨ (2 * r = u ∧ a % 2 = 1)) → upF (a, r, u) = a := fun hh => by unfold upF; rw [if_neg hh]
      repeat' walk_at "pe"
      refine ite_dec (fun hc3 => ?_) fun hc3 => ?_
      · rw [yes (.inl hc3)]
        repeat' walk_at "pe"
        (refine Join.next ?_; refine ⟨rfl, ?_, ?_, ?_⟩ <;> walk_at "lk")
      · repeat' walk_at "pe"
        refine ite_eqN (fun hc4 => ?_) fun hc4 => ?_
        · repeat' walk_at "pe"
          refine ite_eqN (fun hc5 => ?_) fun hc5 => ?_
          · rw [yes (.inr ⟨hc4, hc5⟩)]
            repeat' walk_at "pe"
            (refine Join.next ?_; refine ⟨rfl, ?_, ?_, ?_⟩ <;> walk_at "lk")
          · rw [no (by walk_at "ar")]
            repeat' walk_at "pe"
            (refine Join.next ?_; refine ⟨rfl, ?_, ?_, ?_⟩ <;> walk_at "lk")
        · rw [no (by walk_at "ar")]
          repeat' walk_at "pe"
          (refine Join.next ?_; refine ⟨rfl, ?_, ?_, ?_⟩ <;> walk_at "lk")
    · rintro ω ρ ⟨rfl, w1, w4, w5⟩
      repeat' walk_at "pe"
      refine assembled_spec sg _ _ hs (by walk_at "ar") hq1.1 (by walk_at "ar") ?_
      repeat' walk_at "pe"
      exact h
theorem from_int_spec {k : Nat} (x : Nat) (hx : x < 2 ^ 3000) {Ψ : Dat → Prop} (h : Ψ (.int (rrF 0 x 1 : Nat))) : FSpec (k + 4) (Str.ofString "from_int") [.int x] Ψ := by
  refine FSpec.of_body (mem_rec (k := 24) rfl ⟨rfl, rfl, rfl⟩) (by walk_at "bind") (by decide +kernel) ?_
  change PS _ _ _ [(Str.ofString "n", .int x)] _ _
  repeat' walk_at "pe"
  refine ite_dec (fun hc => absurd hc (by walk_at "ar")) fun hc => ?_
  repeat' walk_at "pe"
  first | rw [if_neg (by walk_at "ar")] | rw [Int.natAbs_natCast]
  refine round_ratio_spec 0 x 1 (show 0 < _ by decide +kernel) (by decide) hx (show 1 < _ by decide +kernel) ?_
  repeat' walk_at "pe"
  exact h
/-- m by two to the power of e is the double that is nearest to t by d -/
structure Near (t d m : Nat) (e : Int) : Prop where
  m1 : m < 2 ^ 53
  m0 : 2 ^ 52 ≤ m
  lo : 2 * (m * (d * 2 ^ e.toNat)) ≤ 2 * (t * 2 ^ (-e).toNat) + d * 2 ^ e.toNat
  hi : 2 * (t * 2 ^ (-e).toNat) ≤ 2 * (m * (d * 2 ^ e.toNat)) + d * 2 ^ e.toNat
  lo' : m % 2 = 1 → 2 * (m * (d * 2 ^ e.toNat)) < 2 * (t * 2 ^ (-e).toNat) + d * 2 ^ e.toNat
  hi' : m % 2 = 1 → 2 * (t * 2 ^ (-e).toNat) < 2 * (m * (d * 2 ^ e.toNat)) + d * 2 ^ e.toNat
  edge : m = 2 ^ 52 → 4 * (m * (d * 2 ^ e.toNat)) ≤ 4 * (t * 2 ^ (-e).toNat) + d * 2 ^ e.toNat

theorem quot_ge {t d : Nat} {p : Int} (ht : 0 < t) (hd : 0 < d) (hp : p = (bl t : Int) - bl d - 53) : 2 ^ 52 ≤ (quotF t d p).1 := by
  rw [quotF_eq]
  simp only
  have hD : 0 < d * 2 ^ p.toNat := Nat.mul_pos hd (Nat.two_pow_pos _)
  refine (Nat.le_div_iff_mul_le hD).mpr ?_
  have h1 : 2 ^ (bl t - 1 + (-p).toNat) ≤ t * 2 ^ (-p).toNat := by
    rw [Nat.pow_add]; exact Nat.mul_le_mul_right _ (bl_le (by walk_at "ar"))
  have h2 : 2 ^ 52 * (d * 2 ^ p.toNat) ≤ 2 ^ (52 + bl d + p.toNat) := by
    rw [Nat.pow_add, Nat.pow_add, Nat.mul_assoc]
    exact Nat.mul_le_mul_left _ (Nat.mul_le_mul_right _ (Nat.le_of_lt (bl_lt d)))
  have hbt : 0 < bl t := by unfold bl; rw [if_neg (by walk_at "ar")]; walk_at "ar"
  have h3 : 2 ^ (52 + bl d + p.toNat) ≤ 2 ^ (bl t - 1 + (-p).toNat) := Nat.pow_le_pow_right (by decide) (by walk_at "ar")
  walk_at "ar"

theorem parts_asm {w : Nat} {p : Int} (hw : 2 ^ 52 ≤ w) (hw2 : w < 2 ^ 53) (hp : -1074 ≤ p) (hp2 : p ≤ 900) : partsF (asmF 0 w p) = (0, w, p) ∧ asmF 0 w p < INFN ∧ asmF 0 w p ≠ 0 := by
  obtain ⟨x, hx⟩ : ∃ x : Nat, p + 1075 = x := ⟨(p + 1075).toNat, by walk_at "ar"⟩
  have e1 : asmF 0 w p = x * 2 ^ 52 + (w - 2 ^ 52) := by
    have h1 : ¬ w = 2 ^ 53 := by walk_at "ar"
    have h2 : ¬ w < 2 ^ 52 := by walk_at "ar"
    have h3 : ¬ (2047 : Int) ≤ (x : Int) := by walk_at "ar"
    unfold asmF
    simp only [h1, h2, if_false, hx, h3, Int.toNat_natCast]
    walk_at "ar"
  have e2 : (x * 2 ^ 52 + (w - 2 ^ 52)) / 2 ^ 52 = x := by walk_at "ar"
  have e3 : (x * 2 ^ 52 + (w - 2 ^ 52)) % 2 ^ 52 = w - 2 ^ 52 := by walk_at "ar"
  rw [e1]
  refine ⟨?_, by unfold INFN; walk_at "ar", by walk_at "ar"⟩
  unfold partsF
  rw [e2, e3, Nat.mod_eq_of_lt (show x < 2 ^ 11 by walk_at "ar"), if_neg (by walk_at "ar")]
  have e4 : (x * 2 ^ 52 + (w - 2 ^ 52)) / 2 ^ 63 = 0 := by walk_at "ar"
  rw [e4, show w - 2 ^ 52 + 2 ^ 52 = w by walk_at "ar", show ((x : Nat) : Int) - 1075 = p by walk_at "ar"]

theorem rr_near {t d : Nat} (ht : 0 < t) (hd : 0 < d) (h1 : -1000 ≤ (bl t : Int) - bl d - 53) (h2 : (bl t : Int) - bl d - 53 ≤ 800) :
    ∃ m e, partsF (rrF 0 t d) = (0, m, e) ∧ rrF 0 t d < INFN ∧ rrF 0 t d ≠ 0 ∧ Near t d m e ∧ (bl t : Int) - bl d - 53 ≤ e ∧ e ≤ (bl t : Int) - bl d - 51 := by
  have hp0 : p0F t d = (bl t : Int) - bl d - 53 := by unfold p0F; walk_at "ar"
  have g0 := quot_ge (p := p0F t d) ht hd hp0
  have l0 : (quotF t d (p0F t d)).1 < 2 ^ 54 := quot_lt hd (by walk_at "ar")
  have hp1 : p0F t d ≤ p1F t d ∧ p1F t d ≤ p0F t d + 1 := by unfold p1F; split <;> walk_at "ar"
  have l1 := p1_lt (t := t) hd
  have g1 : 2 ^ 52 ≤ (quotF t d (p1F t d)).1 := by
    unfold p1F; split
    · rw [quot_half]; walk_at "ar"
    · exact g0
  unfold rrF
  rw [if_neg (by walk_at "ar")]
  generalize p1F t d = p at *
  have hq := quotF_eq t d p
  have hD : 0 < d * 2 ^ p.toNat := Nat.mul_pos hd (Nat.two_pow_pos _)
  have hdm := Nat.div_add_mod (t * 2 ^ (-p).toNat) (d * 2 ^ p.toNat)
  have hr := Nat.mod_lt (t * 2 ^ (-p).toNat) hD
  rw [hq] at l1 g1 ⊢
  simp only at l1 g1
  have hw : upF (t * 2 ^ (-p).toNat / (d * 2 ^ p.toNat), t * 2 ^ (-p).toNat % (d * 2 ^ p.toNat), d * 2 ^ p.toNat) =
    if 2 * (t * 2 ^ (-p).toNat % (d * 2 ^ p.toNat)) > d * 2 ^ p.toNat ∨ (2 * (t * 2 ^ (-p).toNat % (d * 2 ^ p.toNat)) = d * 2 ^ p.toNat ∧ t * 2 ^ (-p).toNat / (d * 2 ^ p.toNat) % 2 = 1) then t * 2 ^ (-p).toNat / (d * 2 ^ p.toNat) + 1 else t * 2 ^ (-p).toNat / (d * 2 ^ p.toNat) := rfl
  generalize upF (t * 2 ^ (-p).toNat / (d * 2 ^ p.toNat), t * 2 ^ (-p).toNat % (d * 2 ^ p.toNat), d * 2 ^ p.toNat) = w at *
  generalize hTT : t * 2 ^ (-p).toNat = T at *
  generalize hDD : d * 2 ^ p.toNat = D at *
  generalize T / D = q at *
  generalize T % D = r at *
  have hDq : D * q = q * D := Nat.mul_comm _ _
  by_cases hup : 2 * r > D ∨ (2 * r = D ∧ q % 2 = 1)
  · rw [if_pos hup] at hw
    by_cases htop : q + 1 = 2 ^ 53
    · -- the next power of two
      have hw2 : w = 2 ^ 53 := by walk_at "ar"
      have ha : asmF 0 w p = asmF 0 (2 ^ 52) (p + 1) := by
        unfold asmF; simp only; rw [if_pos hw2, if_pos hw2]
        rw [if_neg (show ¬ (2 ^ 52 : Nat) = 2 ^ 53 by decide), if_neg (show ¬ (2 ^ 52 : Nat) = 2 ^ 53 by decide)]
      rw [ha]
      obtain ⟨a1, a2, a3⟩ := parts_asm (w := 2 ^ 52) (p := p + 1) (by decide) (by decide) (by walk_at "ar") (by walk_at "ar")
      refine ⟨2 ^ 52, p + 1, a1, a2, a3, ?_, by walk_at "ar", by walk_at "ar"⟩
      have key : ∃ T' D', t * 2 ^ (-(p + 1)).toNat = T' ∧ d * 2 ^ (p + 1).toNat = D' ∧ 0 < D' ∧ 2 * (2 ^ 52 * D') ≤ 2 * T' + D' ∧ T' ≤ 2 ^ 52 * D' ∧ 4 * (2 ^ 52 * D') ≤ 4 * T' + D' := by
        have eT : T = q * D + r := by walk_at "ar"
        have : q * D = (2 ^ 53 - 1) * D := by rw [show q = 2 ^ 53 - 1 by walk_at "ar"]
        by_cases hp : 0 ≤ p
        · refine ⟨T, 2 * D, ?_, ?_, by walk_at "ar", by walk_at "ar", by walk_at "ar", by walk_at "ar"⟩
          · rw [← hTT, show (-(p + 1)).toNat = 0 by walk_at "ar", show (-p).toNat = 0 by walk_at "ar"]
          · rw [← hDD, show (p + 1).toNat = p.toNat + 1 by walk_at "ar", Nat.pow_succ]; rw [← Nat.mul_assoc, Nat.mul_comm]
        · have eT2 : T = 2 * (t * 2 ^ (-(p + 1)).toNat) := by
            rw [← hTT, show (-p).toNat = (-(p + 1)).toNat + 1 by walk_at "ar", Nat.pow_succ]; rw [← Nat.mul_assoc, Nat.mul_comm]
          refine ⟨t * 2 ^ (-(p + 1)).toNat, D, rfl, ?_, by walk_at "ar", by walk_at "ar", by walk_at "ar", by walk_at "ar"⟩
          rw [← hDD, show (p + 1).toNat = 0 by walk_at "ar", show p.toNat = 0 by walk_at "ar"]
      obtain ⟨T', D', e1, e2, k0, k1, k2, k3⟩ := key
      refine ⟨by decide, by decide, ?_, ?_, ?_, ?_, ?_⟩ <;> rw [e1, e2]
      · exact k1
      · walk_at "ar"
      · intro h; exact absurd h (by decide)
      · intro h; exact absurd h (by decide)
      · intro _; exact k3
    · obtain ⟨a1, a2, a3⟩ := parts_asm (w := w) (p := p) (by walk_at "ar") (by walk_at "ar") (by walk_at "ar") (by walk_at "ar")
      refine ⟨w, p, a1, a2, a3, ?_, by walk_at "ar", by walk_at "ar"⟩
      have ew : w * D = q * D + D := by rw [hw, Nat.add_mul, Nat.one_mul]
      refine ⟨by walk_at "ar", by walk_at "ar", ?_, ?_, ?_, ?_, ?_⟩ <;> rw [hTT, hDD]
      · walk_at "ar"
      · walk_at "ar"
      · intro h; rcases hup with hup | hup <;> walk_at "ar"
      · walk_at "ar"
      · intro h; walk_at "ar"
  · rw [if_neg hup] at hw
    obtain ⟨a1, a2, a3⟩ := parts_asm (w := w) (p := p) (by walk_at "ar") (by walk_at "ar") (by walk_at "ar") (by walk_at "ar")
    refine ⟨w, p, a1, a2, a3, ?_, by walk_at "ar", by walk_at "ar"⟩
    have ew : w * D = q * D := by rw [hw]
    refine ⟨by walk_at "ar", by walk_at "ar", ?_, ?_, ?_, ?_, ?_⟩ <;> rw [hTT, hDD]
    · walk_at "ar"
    · walk_at "ar"
    · intro h; walk_at "ar"
    · intro h; walk_at "ar"
    · intro h; walk_at "ar"
theorem is_blank_spec {k : Nat} (c : Nat) {Ψ : Dat → Prop} (h : Ψ (.bool (isB c))) : FSpec (k + 1) (Str.ofString "is_blank") [DS [c]] Ψ := by
  refine FSpec.of_body (mem_rec (k := 49) rfl ⟨rfl, rfl, rfl⟩) (by walk_at "bind") (by decide +kernel) ?_
  change PS _ _ _ [(Str.ofString "sign", DS [c])] _ _
  unfold isB at h
  repeat' walk_at "pe"
  refine ite_b (fun hc => ?_) fun hc => ?_
  · rw [hc] at h
    repeat' walk_at "pe"
    exact h
  · rw [hc] at h
    repeat' walk_at "pe"
    exact h

theorem skipF_step {l : List Nat} {i : Nat} (hi : i < l.length) (hb : isB (l.getD i 0) = true) : skipF l (i + 1) = skipF l i := by
  unfold skipF
  rw [List.drop_eq_getElem_cons hi, List.takeWhile_cons]
  have : l[i] = l.getD i 0 := by simp [hi]
  rw [this, hb, if_pos rfl, List.length_cons]; walk_at "ar"
theorem skipF_stop {l : List Nat} {i : Nat} (hb : ¬ (i < l.length ∧ isB (l.getD i 0) = true)) : skipF l i = i := by
  unfold skipF
  by_cases hi : i < l.length
  · rw [List.drop_eq_getElem_cons hi, List.takeWhile_cons]
    have : l[i] = l.getD i 0 := by simp [hi]
    rw [this, if_neg (fun h => hb ⟨hi, h⟩)]; rfl
  · rw [List.drop_eq_nil_of_le (by walk_at "ar")]; rfl
theorem skip_blanks_spec {k : Nat} (l : List Nat) (i : Nat) (hl : l.length ≤ 1000) (hi : i ≤ l.length) {Ψ : Dat → Prop} (h : Ψ (.int (skipF l i))) : FSpec (k + 2) (Str.ofString "skip_blanks") [DS l, .int i] Ψ := by
  refine FSpec.of_body (mem_rec (k := 50) rfl ⟨rfl, rfl, rfl⟩) (by walk_at "bind") (by decide +kernel) ?_
  change PS _ _ _ [(Str.ofString "at", .int i), (Str.ofString "text", DS l)] _ _
  refine PS.seq ?_
  refine PS1.loop (fun k ω ρ => ω = none ∧ ρ.lookup (Str.ofString "text") = some (DS l) ∧ ∃ j, k = l.length - j ∧ j ≤ l.length ∧ skipF l j = skipF l i ∧ ρ.lookup (Str.ofString "at") = some (.int j)) (l.length - i) ?_ ?_
  · refine ⟨rfl, ?_, i, rfl, hi, rfl, ?_⟩ <;> walk_at "lk"
  · rintro k' ω ρ ⟨rfl, w1, j, rfl, hj, hs, w2⟩
    repeat' walk_at "pe"
    refine ite_dec (fun hc => ?_) fun hc => ?_
    · repeat' walk_at "pe"
      refine is_blank_spec _ ?_
      repeat' walk_at "pe"
      refine ite_b (fun hb => ?_) fun hb => ?_
      · repeat' walk_at "pe"
        refine Turn.next (l.length - (j + 1)) (by walk_at "ar") ?_
        refine ⟨rfl, ?_, j + 1, rfl, by walk_at "ar", by rw [skipF_step hc hb, hs], ?_⟩ <;> walk_at "lk"
      · have := skipF_stop (l := l) (i := j) (fun hh => by rw [hb] at hh; exact Bool.noConfusion hh.2)
        rw [← hs, this] at h
        repeat' walk_at "pe"
        exact h
    · have := skipF_stop (l := l) (i := j) (fun hh => hc hh.1)
      rw [← hs, this] at h
      repeat' walk_at "pe"
      exact h

theorem ite_i {c : Prop} [Decidable c] {A B : Prop} (h1 : c → A) (h2 : ¬ c → B) : if c then A else B := ite_of h1 h2
noncomputable def backF (l : List Nat) (b e : Nat) : Nat := e - (((cut l b e).reverse).takeWhile isB).length
theorem cut_last {l : List Nat} {b e : Nat} (h1 : b < e) (h2 : e ≤ l.length) : cut l b e = cut l b (e - 1) ++ [l.getD (e - 1) 0] := by
  unfold cut
  have e1 : l.take e = l.take (e - 1) ++ [l.getD (e - 1) 0] := by
    obtain ⟨e, rfl⟩ : ∃ x, e = x + 1 := ⟨e - 1, by walk_at "ar"⟩
    have he : e < l.length := by walk_at "ar"
    rw [List.take_succ_eq_append_getElem he]
    simp [he]
  rw [e1, List.drop_append_of_le_length (by rw [List.length_take]; walk_at "ar")]
theorem backF_step {l : List Nat} {b e : Nat} (h1 : b < e) (h2 : e ≤ l.length) (hb : isB (l.getD (e - 1) 0) = true) : backF l b (e - 1) = backF l b e := by
  unfold backF
  rw [cut_last h1 h2, List.reverse_append, List.reverse_singleton, List.singleton_append, List.takeWhile_cons, if_pos hb, List.length_cons]; walk_at "ar"
theorem backF_stop {l : List Nat} {b e : Nat} (h2 : e ≤ l.length) (hb : ¬ (b < e ∧ isB (l.getD (e - 1) 0) = true)) : backF l b e = e := by
  unfold backF
  by_cases h1 : b < e
  · rw [cut_last h1 h2, List.reverse_append, List.reverse_singleton, List.singleton_append, List.takeWhile_cons, if_neg (fun h => hb ⟨h1, h⟩)]; rfl
  · have : cut l b e = [] := by unfold cut; rw [List.drop_eq_nil_of_le (by rw [List.length_take]; walk_at "ar")]
    rw [this]; rfl
theorem skipF_le {l : List Nat} {i : Nat} (h : i ≤ l.length) : skipF l i ≤ l.length := by
  unfold skipF
  have := List.IsPrefix.length_le (List.takeWhile_prefix (l := l.drop i) isB)
  rw [List.length_drop] at this; walk_at "ar"
theorem trimmed_spec {k : Nat} (l : List Nat) (hl : l.length ≤ 1000) {Ψ : Dat → Prop} (h : Ψ (DS (trimF l))) : FSpec (k + 3) (Str.ofString "trimmed") [DS l] Ψ := by
  refine FSpec.of_body (mem_rec (k := 51) rfl ⟨rfl, rfl, rfl⟩) (by walk_at "bind") (by decide +kernel) ?_
  change PS _ _ _ [(Str.ofString "text", DS l)] _ _
  repeat' walk_at "ps"
  refine skip_blanks_spec l 0 hl (by walk_at "ar") ?_
  repeat' walk_at "ps"
  have h0 : trimF l = cut l (skipF l 0) (backF l (skipF l 0) l.length) := by unfold trimF backF cut; rw [List.take_length]
  rw [h0] at h; clear h0
  generalize skipF l 0 = b at *
  refine PS.seq ?_
  refine PS1.loop (fun k ω ρ => ω = none ∧ ρ.lookup (Str.ofString "text") = some (DS l) ∧ ρ.lookup (Str.ofString "begin") = some (.int b) ∧ k ≤ l.length ∧ backF l b k = backF l b l.length ∧ ρ.lookup (Str.ofString "end") = some (.int k)) l.length ?_ ?_
  · refine ⟨rfl, ?_, ?_, by walk_at "ar", rfl, ?_⟩ <;> walk_at "lk"
  · rintro e ω ρ ⟨rfl, w1, w3, hj, hs, w2⟩
    have stop : ¬ (b < e ∧ isB (l.getD (e - 1) 0) = true) → Ψ (DS (cut l b e)) := fun hh => by
      have := backF_stop hj hh
      rw [← hs, this] at h; exact h
    repeat' walk_at "pe"
    refine ite_dec (fun hc => ?_) fun hc => ?_
    · repeat' walk_at "pe"
      refine is_blank_spec _ ?_
      repeat' walk_at "pe"
      refine ite_b (fun hb => ?_) fun hb => ?_
      · repeat' walk_at "pe"
        refine Turn.next (e - 1) (by walk_at "ar") ?_
        refine ⟨rfl, ?_, ?_, by walk_at "ar", by rw [backF_step hc hj hb, hs], ?_⟩ <;> walk_at "lk"
      · repeat' walk_at "pe"
        exact stop fun hh => by rw [hb] at hh; exact Bool.noConfusion hh.2
    · repeat' walk_at "pe"
      exact stop fun hh => hc hh.1
theorem lt1 {a b : Nat} : (([a] : List Nat) < [b]) ↔ a < b := by
  constructor
  · intro h
    cases h with
    | rel h => exact h
    | cons h => cases h
  · intro h; exact List.Lex.rel h
theorem le1 {a b : Nat} : (!decide (([b] : List Nat) < [a])) = decide (a ≤ b) := by
  by_cases h : a ≤ b
  · have : ¬ (([b] : List Nat) < [a]) := fun hh => by have := lt1.mp hh; walk_at "ar"
    simp [h, this]
  · have : (([b] : List Nat) < [a]) := lt1.mpr (by walk_at "ar")
    simp [h, this]
theorem figure_of_spec {k : Nat} (c : Nat) {Ψ : Dat → Prop} (h : Ψ (.int (figF c : Nat))) : FSpec (k + 1) (Str.ofString "figure_of") [DS [c]] Ψ := by
  refine FSpec.of_body (mem_rec (k := 52) rfl ⟨rfl, rfl, rfl⟩) (by walk_at "bind") (by decide +kernel) ?_
  change PS _ _ _ [(Str.ofString "sign", DS [c])] _ _
  have e0 : lt "0" = [48] := by decide +kernel
  have e9 : lt "9" = [57] := by decide +kernel
  have ea : lt "a" = [97] := by decide +kernel
  have ez : lt "z" = [122] := by decide +kernel
  have eA : lt "A" = [65] := by decide +kernel
  have eZ : lt "Z" = [90] := by decide +kernel
  unfold figF at h
  repeat' first | walk_at "pe" | rw [e0, le1] | rw [e9, le1] | rw [ea, le1] | rw [ez, le1] | rw [eA, le1] | rw [eZ, le1] | refine ite_dec (fun _ => ?_) fun _ => ?_
  all_goals first
    | (rw [if_pos (by walk_at "ar")] at h; exact h)
    | (rw [if_neg (by walk_at "ar"), if_pos (by walk_at "ar")] at h; exact h)
    | (rw [if_neg (by walk_at "ar"), if_neg (by walk_at "ar"), if_pos (by walk_at "ar")] at h; exact h)
    | (rw [if_neg (by walk_at "ar"), if_neg (by walk_at "ar"), if_neg (by walk_at "ar")] at h; exact h)

theorem figF_le (c : Nat) : figF c ≤ 36 := by unfold figF; (repeat' split) <;> walk_at "ar"
theorem runF_step {l : List Nat} {i r : Nat} (hi : i < l.length) (hb : figF (l.getD i 0) < r) : runF l (i + 1) r = runF l i r := by
  unfold runF
  rw [List.drop_eq_getElem_cons hi, List.takeWhile_cons]
  have : l[i] = l.getD i 0 := by simp [hi]
  rw [this, if_pos (by simpa using hb), List.length_cons]; walk_at "ar"
theorem runF_stop {l : List Nat} {i r : Nat} (hb : ¬ (i < l.length ∧ figF (l.getD i 0) < r)) : runF l i r = i := by
  unfold runF
  by_cases hi : i < l.length
  · rw [List.drop_eq_getElem_cons hi, List.takeWhile_cons]
    have : l[i] = l.getD i 0 := by simp [hi]
    rw [this, if_neg (fun h => hb ⟨hi, by simpa using h⟩)]; rfl
  · rw [List.drop_eq_nil_of_le (by walk_at "ar")]; rfl
theorem runF_le {l : List Nat} {i r : Nat} (h : i ≤ l.length) : runF l i r ≤ l.length := by
  unfold runF
  have := List.IsPrefix.length_le (List.takeWhile_prefix (l := l.drop i) fun c => decide (figF c < r))
  rw [List.length_drop] at this; walk_at "ar"
theorem runF_ge {l : List Nat} {i r : Nat} : i ≤ runF l i r := by unfold runF; walk_at "ar"
theorem run_end_spec {k : Nat} (l : List Nat) (i r : Nat) (hl : l.length ≤ 1000) (hi : i ≤ l.length) {Ψ : Dat → Prop} (h : Ψ (.int (runF l i r : Nat))) : FSpec (k + 2) (Str.ofString "run_end") [DS l, .int i, .int r] Ψ := by
  refine FSpec.of_body (mem_rec (k := 53) rfl ⟨rfl, rfl, rfl⟩) (by walk_at "bind") (by decide +kernel) ?_
  change PS _ _ _ [(Str.ofString "radix", .int r), (Str.ofString "at", .int i), (Str.ofString "text", DS l)] _ _
  refine PS.seq ?_
  refine PS1.loop (fun k ω ρ => ω = none ∧ ρ.lookup (Str.ofString "text") = some (DS l) ∧ ρ.lookup (Str.ofString "radix") = some (.int r) ∧ ∃ j, k = l.length - j ∧ j ≤ l.length ∧ runF l j r = runF l i r ∧ ρ.lookup (Str.ofString "at") = some (.int j)) (l.length - i) ?_ ?_
  · refine ⟨rfl, ?_, ?_, i, rfl, hi, rfl, ?_⟩ <;> walk_at "lk"
  · rintro k' ω ρ ⟨rfl, w1, w3, j, rfl, hj, hs, w2⟩
    have stop : ¬ (j < l.length ∧ figF (l.getD j 0) < r) → Ψ (.int (j : Nat)) := fun hh => by
      have := runF_stop hh
      rw [← hs, this] at h; exact h
    repeat' walk_at "pe"
    refine ite_dec (fun hc => ?_) fun hc => ?_
    · repeat' walk_at "pe"
      refine figure_of_spec _ ?_
      repeat' walk_at "pe"
      refine ite_dec (fun hb => ?_) fun hb => ?_
      · repeat' walk_at "pe"
        refine Turn.next (l.length - (j + 1)) (by walk_at "ar") ?_
        refine ⟨rfl, ?_, ?_, j + 1, rfl, by walk_at "ar", by rw [runF_step hc hb, hs], ?_⟩ <;> walk_at "lk"
      · repeat' walk_at "pe"
        exact stop fun hh => hb hh.2
    · repeat' walk_at "pe"
      exact stop fun hh => hc hh.1

theorem foldF_lt (r : Nat) (hr : r ≤ 64) (l : List Nat) (a m : Nat) (ha : a < 64 ^ m) : l.foldl (fun a c => a * r + figF c) a < 64 ^ (m + l.length) := by
  induction l generalizing a m with
  | nil => exact ha
  | cons c t ih =>
    rw [List.foldl_cons, List.length_cons, show m + (t.length + 1) = (m + 1) + t.length by walk_at "ar"]
    refine ih _ _ ?_
    have := figF_le c
    have h2 : a * r ≤ (64 ^ m - 1) * 64 := Nat.mul_le_mul (by walk_at "ar") hr
    rw [Nat.pow_succ]
    have h1 : 0 < 64 ^ m := Nat.pow_pos (by decide)
    walk_at "ar"
theorem foldF_snoc (r : Nat) (l : List Nat) (c : Nat) : foldF r (l ++ [c]) = foldF r l * r + figF c := by unfold foldF; rw [List.foldl_append]; rfl
theorem cut_succ {l : List Nat} {b e : Nat} (h1 : b ≤ e) (h2 : e < l.length) : cut l b (e + 1) = cut l b e ++ [l.getD e 0] := by
  have := cut_last (l := l) (b := b) (e := e + 1) (by walk_at "ar") (by walk_at "ar")
  simpa using this
theorem cut_len {l : List Nat} {b e : Nat} : (cut l b e).length ≤ e - b := by unfold cut; rw [List.length_drop, List.length_take]; walk_at "ar"
theorem Sm_of_pow {x m : Nat} (h : x < 64 ^ m) (hm : m ≤ 1300) : Sm x := by
  have e : 64 ^ m = 2 ^ (6 * m) := by rw [show (64 : Nat) = 2 ^ 6 by decide, ← Nat.pow_mul]
  have := Nat.pow_le_pow_right (show 0 < 2 by decide) (show 6 * m ≤ 8000 by walk_at "ar")
  rw [e] at h
  exact Nat.lt_of_lt_of_le h this
theorem worth_spec {k : Nat} (l : List Nat) (b e r : Nat) (hl : l.length ≤ 1000) (hb : b ≤ e) (he : e ≤ l.length) (hr : r ≤ 64) {Ψ : Dat → Prop} (h : Ψ (.int (worthF l b e r : Nat))) : FSpec (k + 2) (Str.ofString "worth") [DS l, .int b, .int e, .int r] Ψ := by
  refine FSpec.of_body (mem_rec (k := 54) rfl ⟨rfl, rfl, rfl⟩) (by walk_at "bind") (by decide +kernel) ?_
  change PS _ _ _ [(Str.ofString "radix", .int r), (Str.ofString "end", .int e), (Str.ofString "begin", .int b), (Str.ofString "text", DS l)] _ _
  repeat' walk_at "ps"
  refine PS.seq ?_
  refine PS1.forR (by decide +kernel) rfl ?_ ⟨_, _, rfl⟩
  repeat' walk_at "pe"
  refine ⟨b, e, rfl, rfl, by walk_at "ar", by walk_at "ar", fun i ρ => ρ.lookup (Str.ofString "text") = some (DS l) ∧ ρ.lookup (Str.ofString "radix") = some (.int r) ∧ ρ.lookup (Str.ofString "found") = some (.int (worthF l b (b + i) r)), ForJ.mk fun i ρ hi ⟨w1, w2, w3⟩ => ?_, ⟨?_, ?_, ?_⟩, ?_⟩
  · refine PA.name (by decide +kernel) rfl ?_
    have hi : i < e - b := hi
    have hlt : b + i < l.length := by walk_at "ar"
    have h0 : foldF r (cut l b (b + i)) < 64 ^ (0 + (cut l b (b + i)).length) := foldF_lt r hr _ 0 0 (by decide)
    have hl2 : (cut l b (b + i)).length ≤ b + i - b := cut_len
    have s1 : Sm (worthF l b (b + i) r) := Sm_of_pow h0 (by walk_at "ar")
    have s2 : Sm r := Nat.lt_of_le_of_lt hr (show 64 < _ by decide +kernel)
    repeat' walk_at "pe"
    refine figure_of_spec _ ?_
    repeat' walk_at "pe"
    refine TurnF.next ⟨?_, ?_, ?_⟩
    · walk_at "lk"
    · walk_at "lk"
    · have : worthF l b (b + (i + 1)) r = worthF l b (b + i) r * r + figF (l.getD (b + i) 0) := by
        unfold worthF; rw [show b + (i + 1) = (b + i) + 1 by walk_at "ar", cut_succ (by walk_at "ar") hlt, foldF_snoc]
      rw [this]; walk_at "lk"
  · walk_at "lk"
  · walk_at "lk"
  · have : worthF l b (b + 0) r = 0 := by
      have : cut l b b = [] := by unfold cut; rw [List.drop_eq_nil_of_le (by rw [List.length_take]; walk_at "ar")]
      unfold worthF; rw [Nat.add_zero, this]; rfl
    rw [this]; walk_at "lk"
  · rintro ρ ⟨w1, w2, w3⟩
    rw [show b + (e - b) = e by walk_at "ar"] at w3
    repeat' walk_at "pe"
    exact h
theorem asmF_lt {w : Nat} {p : Int} (hw : w ≤ 2 ^ 53) (hp : -1074 ≤ p) : asmF 0 w p < 2 ^ 63 := by
  unfold asmF INFN
  by_cases h : w = 2 ^ 53
  · simp only [h, if_true]
    rw [if_neg (by decide)]
    split <;> omega
  · simp only [h, if_false]
    (repeat' split) <;> walk_at "ar"
theorem rrF_lt {t d : Nat} (hd : 0 < d) : rrF 0 t d < 2 ^ 63 := by
  unfold rrF
  split
  · decide
  · have h1 := p1_lt (t := t) hd
    refine asmF_lt ?_ ?_
    · have : upF (quotF t d (p1F t d)) ≤ (quotF t d (p1F t d)).1 + 1 := by unfold upF; split <;> walk_at "ar"
      walk_at "ar"
    · unfold p1F p0F; split <;> walk_at "ar"
theorem lstr_len (a b : List Nat) : (lstr a b).length ≤ a.length := by
  unfold lstr; exact List.IsSuffix.length_le (List.dropWhile_suffix _)
theorem foldF_small {l : List Nat} (r : Nat) (hr : r ≤ 64) (hl : l.length ≤ 200) : foldF r l < 2 ^ 1200 := by
  have h := foldF_lt r hr l 0 0 (by decide)
  have e : 64 ^ (0 + l.length) = 2 ^ (6 * (0 + l.length)) := by rw [show (64 : Nat) = 2 ^ 6 by decide, ← Nat.pow_mul]
  have h2 := Nat.pow_le_pow_right (show 0 < 2 by decide) (show 6 * (0 + l.length) ≤ 1200 by walk_at "ar")
  rw [e] at h
  exact Nat.lt_of_lt_of_le h h2
theorem ten_small {e : Nat} (he : e ≤ 600) : 10 ^ e < 2 ^ 2000 := by
  have h1 : 10 ^ e ≤ 10 ^ 600 := Nat.pow_le_pow_right (by decide) he
  have h2 : 10 ^ 600 < 2 ^ 2000 := by decide +kernel
  exact Nat.lt_of_le_of_lt h1 h2
theorem ten_small2 {e : Nat} (he : e ≤ 400) : 10 ^ e < 2 ^ 1400 := by
  have h1 : 10 ^ e ≤ 10 ^ 400 := Nat.pow_le_pow_right (by decide) he
  have h2 : 10 ^ 400 < 2 ^ 1400 := by decide +kernel
  exact Nat.lt_of_le_of_lt h1 h2
theorem Sm_le {x k : Nat} (h : x < 2 ^ k) (hk : k ≤ 8000) : Sm x := Nat.lt_of_lt_of_le h (Nat.pow_le_pow_right (show 0 < 2 by decide) hk)
theorem lt3000 {x k : Nat} (h : x < 2 ^ k) (hk : k ≤ 3000) : x < 2 ^ 3000 := Nat.lt_of_lt_of_le h (Nat.pow_le_pow_right (show 0 < 2 by decide) hk)
theorem cut_all {l : List Nat} : cut l 0 l.length = l := by unfold cut; rw [List.take_length, List.drop_zero]
theorem mul_pow_lt {a b m n : Nat} (h1 : a < 2 ^ m) (h2 : b < 2 ^ n) : a * b < 2 ^ (m + n) := by
  rw [Nat.pow_add]; exact Nat.mul_lt_mul'' h1 h2
theorem from_decimal_spec {k : Nat} (f : List Nat) (e : Int) (hf : f.length ≤ 200) {Ψ : Dat → Prop} (h : Ψ (.int (fdF f e : Nat))) : FSpec (k + 4) (Str.ofString "from_decimal") [DS f, .int e] Ψ := by
  refine FSpec.of_body (mem_rec (k := 55) rfl ⟨rfl, rfl, rfl⟩) (by walk_at "bind") (by decide +kernel) ?_
  change PS _ _ _ [(Str.ofString "exponent", .int e), (Str.ofString "figures", DS f)] _ _
  unfold fdF at h
  have e0 : lt "0" = [48] := by decide +kernel
  have en : lt "" = [] := by decide +kernel
  have hl := lstr_len f [48]
  repeat' first | walk_at "pe" | rw [e0]
  rw [en]
  generalize lstr f [48] = t at *
  have hn : foldF 10 t < 2 ^ 1200 := foldF_small 10 (by decide) (by walk_at "ar")
  have hw : worthF t 0 t.length 10 = foldF 10 t := by unfold worthF; rw [cut_all]
  repeat' walk_at "pe"
  refine ite_eqS (fun hc => ?_) fun hc => ?_
  · rw [if_pos (.inl hc)] at h
    repeat' walk_at "pe"
    exact h
  repeat' walk_at "pe"
  refine ite_dec (fun hc2 => ?_) fun hc2 => ?_
  · have hc2 : (t.length : Int) + e < -400 := by walk_at "ar"
    rw [if_pos (.inr hc2)] at h
    repeat' walk_at "pe"
    exact h
  have hc2 : ¬ (t.length : Int) + e < -400 := by walk_at "ar"
  rw [if_neg (fun hh => hh.elim hc hc2)] at h
  repeat' walk_at "pe"
  refine ite_dec (fun hc3 => ?_) fun hc3 => ?_
  · have hc3 : 400 < (t.length : Int) + e := by walk_at "ar"
    rw [if_pos hc3] at h
    repeat' walk_at "pe"
    exact h
  have hc3 : ¬ 400 < (t.length : Int) + e := by walk_at "ar"
  rw [if_neg hc3] at h
  repeat' walk_at "pe"
  refine worth_spec t 0 t.length 10 (by walk_at "ar") (by walk_at "ar") (by walk_at "ar") (by decide) ?_
  rw [hw]
  have sn : Sm (foldF 10 t) := Sm_le hn (by decide)
  generalize foldF 10 t = N at *
  repeat' walk_at "pe"
  refine ite_dec (fun hc4 => ?_) fun hc4 => ?_
  · have hc4 : 0 ≤ e := by walk_at "ar"
    rw [if_pos hc4] at h
    obtain ⟨x, rfl⟩ := Int.eq_ofNat_of_zero_le hc4
    have hx : x ≤ 400 := by walk_at "ar"
    have ht := ten_small2 hx
    have s2 : Sm (10 ^ x) := Sm_le ht (by decide)
    have hb : N * 10 ^ x < 2 ^ 3000 := lt3000 (mul_pow_lt hn ht) (by decide)
    have h : Ψ (.int (rrF 0 (N * 10 ^ x) 1 : Nat)) := h
    clear hn ht
    repeat' walk_at "pe"
    refine round_ratio_spec 0 _ 1 (show 0 < _ by decide +kernel) (by decide) hb (show 1 < _ by decide +kernel) ?_
    repeat' walk_at "pe"
    exact h
  · have hc4 : ¬ 0 ≤ e := by walk_at "ar"
    rw [if_neg hc4] at h
    obtain ⟨x, hx⟩ := Int.eq_ofNat_of_zero_le (show 0 ≤ -e by walk_at "ar")
    have hx2 : x ≤ 600 := by walk_at "ar"
    have ht := ten_small hx2
    have hb : 10 ^ x < 2 ^ 3000 := lt3000 ht (by decide)
    have hb2 : N < 2 ^ 3000 := lt3000 hn (by decide)
    rw [hx] at h
    have h : Ψ (.int (rrF 0 N (10 ^ x) : Nat)) := h
    have e1 : ((0 : Nat) : Int) - e = x := by walk_at "ar"
    have hp : 0 < 10 ^ x := Nat.pow_pos (by decide)
    clear hn ht
    repeat' walk_at "pe"
    rw [e1]
    repeat' walk_at "pe"
    refine round_ratio_spec 0 _ _ (show 0 < _ by decide +kernel) hp hb2 hb ?_
    repeat' walk_at "pe"
    exact h

theorem sign_at_spec {k : Nat} (l : List Nat) (i : Nat) (hl : l.length ≤ 1000) {Ψ : Dat → Prop} (h : Ψ (.tuple [.bool (signF l i).1, .int ((signF l i).2 : Nat)])) : FSpec (k + 1) (Str.ofString "sign_at") [DS l, .int i] Ψ := by
  refine FSpec.of_body (mem_rec (k := 56) rfl ⟨rfl, rfl, rfl⟩) (by walk_at "bind") (by decide +kernel) ?_
  change PS _ _ _ [(Str.ofString "at", .int i), (Str.ofString "text", DS l)] _ _
  have e0 : lt "+-" = [43, 45] := by decide +kernel
  have e1 : lt "-" = [45] := by decide +kernel
  unfold signF at h
  repeat' walk_at "pe"
  refine ite_dec (fun hc => ?_) fun hc => ?_
  · repeat' walk_at "pe"
    rw [e0]
    refine ite_dec (fun hc2 => ?_) fun hc2 => ?_
    · rw [if_pos ⟨hc, by simpa using hc2⟩] at h
      repeat' walk_at "pe"
      rw [e1]
      have : (([l.getD i 0] : List Nat) == [45]) = (l.getD i 0 == 45) := by
        by_cases hh : l.getD i 0 = 45 <;> simp
      rw [this]; exact h
    · rw [if_neg (fun hh => hc2 (by simpa using hh.2))] at h
      repeat' walk_at "pe"
      exact h
  · rw [if_neg (fun hh => hc hh.1)] at h
    repeat' walk_at "pe"
    exact h
theorem turned_spec {k : Nat} (b : Nat) (m : Bool) (hb : b < 2 ^ 63) {Ψ : Dat → Prop} (h : Ψ (.int (turnF b m : Nat))) : FSpec (k + 1) (Str.ofString "turned") [.int b, .bool m] Ψ := by
  refine FSpec.of_body (mem_rec (k := 57) rfl ⟨rfl, rfl, rfl⟩) (by walk_at "bind") (by decide +kernel) ?_
  change PS _ _ _ [(Str.ofString "is_minus", .bool m), (Str.ofString "bits", .int b)] _ _
  unfold turnF at h
  repeat' walk_at "pe"
  refine ite_b (fun hc => ?_) fun hc => ?_
  · subst hc
    repeat' walk_at "pe"
    refine PBin.xorN hb ?_
    repeat' walk_at "pe"
    exact h
  · subst hc
    repeat' walk_at "pe"
    exact h
theorem signF_le {l : List Nat} {i : Nat} (h : i ≤ l.length) : (signF l i).2 ≤ l.length := by
  unfold signF; split <;> simp only <;> walk_at "ar"
theorem exponent_at_spec {k : Nat} (l : List Nat) (i : Nat) (hl : l.length ≤ 200) {Ψ : Dat → Prop} (h : Ψ (.tuple [.int (expF l i).1, .int ((expF l i).2 : Nat)])) : FSpec (k + 3) (Str.ofString "exponent_at") [DS l, .int i] Ψ := by
  refine FSpec.of_body (mem_rec (k := 58) rfl ⟨rfl, rfl, rfl⟩) (by walk_at "bind") (by decide +kernel) ?_
  change PS _ _ _ [(Str.ofString "at", .int i), (Str.ofString "text", DS l)] _ _
  have e0 : lt "eE" = [101, 69] := by decide +kernel
  unfold expF at h
  repeat' walk_at "pe"
  refine ite_dec (fun hc => ?_) fun hc => ?_
  · rw [if_pos (fun hh => by walk_at "ar")] at h
    repeat' walk_at "pe"
    exact h
  repeat' walk_at "pe"
  rw [e0]
  refine ite_ndec (fun hc2 => ?_) fun hc2 => ?_
  · rw [if_pos (fun hh => hc2 (by simpa using hh.2))] at h
    repeat' walk_at "pe"
    exact h
  have hc2 : l.getD i 0 = 101 ∨ l.getD i 0 = 69 := by simpa using hc2
  rw [if_neg (fun hh => hh ⟨by walk_at "ar", hc2⟩)] at h
  repeat' walk_at "pe"
  refine sign_at_spec l (i + 1) (by walk_at "ar") ?_
  repeat' walk_at "pe"
  have hb := signF_le (l := l) (i := i + 1) (by walk_at "ar")
  generalize signF l (i + 1) = q at *
  obtain ⟨m, b⟩ := q
  simp only at *
  refine run_end_spec l b 10 (by walk_at "ar") hb ?_
  repeat' walk_at "pe"
  have hr := runF_le (r := 10) hb
  have hr2 := runF_ge (l := l) (i := b) (r := 10)
  generalize runF l b 10 = e at *
  refine ite_eqN (fun hc3 => ?_) fun hc3 => ?_
  · rw [if_pos hc3] at h
    repeat' walk_at "pe"
    exact h
  rw [if_neg hc3] at h
  repeat' walk_at "pe"
  refine worth_spec l b e 10 (by walk_at "ar") (by walk_at "ar") (by walk_at "ar") (by decide) ?_
  repeat' walk_at "pe"
  have em : (if ((10 ^ 9 : Nat) : Int) < ((worthF l b e 10 : Nat) : Int) then ((10 ^ 9 : Nat) : Int) else ((worthF l b e 10 : Nat) : Int)) = ((min (worthF l b e 10) (10 ^ 9) : Nat) : Int) := by split <;> walk_at "ar"
  rw [em]
  generalize min (worthF l b e 10) (10 ^ 9) = far at *
  repeat' walk_at "pe"
  refine ite_b (fun hm => ?_) fun hm => ?_
  · subst hm
    repeat' walk_at "pe"
    rw [show (((0 : Nat) : Int) - far) = - (far : Int) by walk_at "ar"]
    exact h
  · subst hm
    repeat' walk_at "pe"
    exact h

noncomputable def decD : Option (Nat × Nat) → Dat
  | some x => .tuple [.int (x.1 : Nat), .int (x.2 : Nat)]
  | none => .none
theorem decimal_at_spec {k : Nat} (l : List Nat) (i : Nat) (hl : l.length ≤ 200) (hi : i ≤ l.length) {Ψ : Dat → Prop} (h : Ψ (decD (decF l i))) : FSpec (k + 5) (Str.ofString "decimal_at") [DS l, .int i] Ψ := by
  refine FSpec.of_body (mem_rec (k := 59) rfl ⟨rfl, rfl, rfl⟩) (by walk_at "bind") (by decide +kernel) ?_
  change PS _ _ _ [(Str.ofString "at", .int i), (Str.ofString "text", DS l)] _ _
  have e0 : lt "." = [46] := by decide +kernel
  have en : lt "" = [] := by decide +kernel
  have e8 : ENDLESSL.length = 8 := rfl
  unfold decF at h
  repeat' walk_at "pe"
  rw [e8]
  refine ite_eqS (fun hc => ?_) fun hc => ?_
  · rw [if_pos hc] at h
    repeat' walk_at "pe"
    exact h
  rw [if_neg hc] at h
  repeat' walk_at "pe"
  refine run_end_spec l i 10 (by walk_at "ar") hi ?_
  have hr := runF_le (r := 10) hi
  have hr2 := runF_ge (l := l) (i := i) (r := 10)
  generalize runF l i 10 = p at *
  repeat' walk_at "ps"
  simp only at h
  obtain ⟨f, hf⟩ : ∃ f, f = (if p < l.length ∧ l.getD p 0 = 46 then cut l i p ++ cut l (p + 1) (runF l (p + 1) 10) else cut l i p) := ⟨_, rfl⟩
  obtain ⟨e, he⟩ : ∃ e, e = (if p < l.length ∧ l.getD p 0 = 46 then runF l (p + 1) 10 else p) := ⟨_, rfl⟩
  obtain ⟨b, hb⟩ : ∃ b, b = (if p < l.length ∧ l.getD p 0 = 46 then e - p - 1 else 0) := ⟨_, rfl⟩
  rw [← he, ← hb] at h
  have hf' : f = (if p < l.length ∧ l.getD p 0 = 46 then cut l i p ++ cut l (p + 1) e else cut l i p) := by rw [hf, he]; split <;> rfl
  rw [← hf'] at h
  clear hf
  have hf := hf'
  clear hf'
  have hl1 : (cut l i p).length ≤ p - i := cut_len
  have hl2 : (cut l (p + 1) e).length ≤ e - (p + 1) := cut_len
  have hel : e ≤ l.length := by
    rw [he]; split
    · exact runF_le (by walk_at "ar")
    · exact hr
  have hl12 : (cut l i p).length + (cut l (p + 1) e).length ≤ 200 := Nat.le_trans (ar_two hl1 hl2 hel hr) hl
  have hl3 : (cut l i p).length ≤ 200 := Nat.le_trans (Nat.le_add_right _ _) hl12
  clear hl1 hl2
  have hfl : f.length ≤ 200 := by
    rw [hf]; split
    · rw [List.length_append]; exact hl12
    · exact hl3
  refine PS.seqJoin (fun ω ρ => ω = none ∧ ρ.lookup (Str.ofString "text") = some (DS l) ∧ ρ.lookup (Str.ofString "figures") = some (DS f) ∧ ρ.lookup (Str.ofString "end") = some (.int (e : Nat)) ∧ ρ.lookup (Str.ofString "behind") = some (.int (b : Nat))) ?_ ?_
  · have no : ¬ (p < l.length ∧ l.getD p 0 = 46) → f = cut l i p ∧ e = p ∧ b = 0 := fun hh => by
      rw [if_neg hh] at hf he hb; exact ⟨hf, he, hb⟩
    repeat' walk_at "pe"
    refine ite_dec (fun hc2 => ?_) fun hc2 => ?_
    · repeat' walk_at "pe"
      rw [e0]
      refine ite_eqS (fun hc3 => ?_) fun hc3 => ?_
      · have hd : p < l.length ∧ l.getD p 0 = 46 := ⟨hc2, by simpa using hc3⟩
        rw [if_pos hd] at hf he hb
        repeat' walk_at "pe"
        refine run_end_spec l (p + 1) 10 (by walk_at "ar") (by walk_at "ar") ?_
        have h1 := runF_ge (l := l) (i := p + 1) (r := 10)
        rw [← he] at h1 ⊢
        repeat' walk_at "pe"
        rw [← hf, ← hb]
        refine Join.next ?_
        refine ⟨rfl, ?_, ?_, ?_, ?_⟩ <;> walk_at "lk"
      · obtain ⟨rfl, rfl, rfl⟩ := no fun hh => hc3 (by simpa using hh.2)
        repeat' walk_at "pe"
        refine Join.next ?_
        refine ⟨rfl, ?_, ?_, ?_, ?_⟩ <;> walk_at "lk"
    · obtain ⟨rfl, rfl, rfl⟩ := no fun hh => hc2 hh.1
      repeat' walk_at "pe"
      refine Join.next ?_
      refine ⟨rfl, ?_, ?_, ?_, ?_⟩ <;> walk_at "lk"
  · rintro ω ρ ⟨rfl, w1, w2, w3, w4⟩
    clear hf he hb hl12 hl3
    repeat' walk_at "pe"
    rw [en]
    refine ite_eqS (fun hc2 => ?_) fun hc2 => ?_
    · rw [if_pos hc2] at h
      repeat' walk_at "pe"
      exact h
    rw [if_neg hc2] at h
    repeat' walk_at "pe"
    refine exponent_at_spec l e hl ?_
    repeat' walk_at "pe"
    refine from_decimal_spec f _ hfl ?_
    repeat' walk_at "pe"
    exact h

theorem cut_len2 {l : List Nat} {b e : Nat} : (cut l b e).length ≤ l.length := by unfold cut; rw [List.length_drop, List.length_take]; walk_at "ar"
theorem expF_le {l : List Nat} {i : Nat} (h : i ≤ l.length) : (expF l i).2 ≤ l.length := by
  unfold expF
  split
  · exact h
  · rename_i hh
    have hh : i < l.length := Decidable.byContradiction fun hn => hh fun hx => hn hx.1
    split
    · exact h
    · exact runF_le (signF_le (by walk_at "ar"))
theorem fdF_lt {f : List Nat} {e : Int} : fdF f e < 2 ^ 63 := by
  unfold fdF
  split
  · decide
  · split
    · decide
    · split
      · exact rrF_lt (by decide)
      · exact rrF_lt (Nat.pow_pos (by decide))
theorem opt_lt {f : List Nat} {e : Int} {z : Nat} {x : Nat × Nat} (h : (if f = [] then none else some (fdF f e, z)) = some x) : x.1 < 2 ^ 63 := by
  split at h
  · exact absurd h (by simp)
  · cases h; exact fdF_lt
theorem decF_lt {l : List Nat} {i : Nat} {x : Nat × Nat} (h : decF l i = some x) : x.1 < 2 ^ 63 := by
  unfold decF at h
  split at h
  · cases h; show INFN < _; decide
  · exact opt_lt h

theorem text_to_number_spec {k : Nat} (l : List Nat) (hl : l.length ≤ 200) {Ψ : Dat → Prop} (h : Ψ (.int (ttnF l : Nat))) : FSpec (k + 6) (Str.ofString "text_to_number") [DS l] Ψ := by
  refine FSpec.of_body (mem_rec (k := 60) rfl ⟨rfl, rfl, rfl⟩) (by walk_at "bind") (by decide +kernel) ?_
  change PS _ _ _ [(Str.ofString "text", DS l)] _ _
  have en : lt "" = [] := by decide +kernel
  have ex : lt "0x" = [48, 120] := by decide +kernel
  have eX : lt "0X" = [48, 88] := by decide +kernel
  unfold ttnF at h
  repeat' walk_at "ps"
  refine trimmed_spec l (by walk_at "ar") ?_
  have ht : (trimF l).length ≤ l.length := cut_len2
  generalize trimF l = t at *
  simp only at h
  repeat' walk_at "pe"
  rw [en]
  refine ite_eqS (fun hc => ?_) fun hc => ?_
  · rw [if_pos hc] at h
    repeat' walk_at "pe"
    exact h
  rw [if_neg hc] at h
  repeat' walk_at "ps"
  refine PS.seq ?_
  refine PS1.ite (PT.mono (Ψ := fun b => b = decide (t.take 2 = [48, 120] ∨ t.take 2 = [48, 88])) ?_ ?_)
  · repeat' walk_at "pe"
    rw [ex]
    refine ite_eqS (fun hc => ?_) fun hc => ?_
    · simp [hc]
    · repeat' walk_at "pe"
      rw [eX]
      refine ite_eqS (fun hc2 => ?_) fun hc2 => ?_
      · simp [hc2]
      · repeat' walk_at "pe"
        simp [hc, hc2]
  · rintro _ rfl
    refine ite_dec (fun hx => ?_) fun hx => ?_
    · rw [if_pos hx] at h
      refine PS.seq (PS1.assign (by decide +kernel) rfl rfl ?_)
      refine PE.mono (Ψ := fun b => b = .bool (decide (2 < t.length ∧ runF t 2 16 = t.length))) ?_ ?_
      · repeat' walk_at "pe"
        refine ite_dec (fun hc => ?_) fun hc => ?_
        · repeat' walk_at "pe"
          refine run_end_spec t 2 16 (by walk_at "ar") (by walk_at "ar") ?_
          repeat' walk_at "pe"
          by_cases hh : runF t 2 16 = t.length <;> simp [hc, hh]
        · simp [hc]
      · rintro _ rfl
        repeat' walk_at "pe"
        refine ite_dec (fun hc => ?_) fun hc => ?_
        · rw [if_pos hc] at h
          repeat' walk_at "pe"
          refine worth_spec t 2 t.length 16 (by walk_at "ar") (by walk_at "ar") (by walk_at "ar") (by decide) ?_
          repeat' walk_at "pe"
          refine from_int_spec _ ?_ ?_
          · exact lt3000 (foldF_small 16 (by decide) (Nat.le_trans cut_len2 (by walk_at "ar"))) (by decide)
          · repeat' walk_at "pe"
            exact h
        · rw [if_neg hc] at h
          repeat' walk_at "pe"
          exact h
    · rw [if_neg hx] at h
      repeat' walk_at "ps"
      refine sign_at_spec t 0 (by walk_at "ar") ?_
      have hs := signF_le (l := t) (i := 0) (by walk_at "ar")
      generalize signF t 0 = q at *
      obtain ⟨m, b⟩ := q
      simp only at h hs ⊢
      repeat' walk_at "ps"
      refine decimal_at_spec t b (by walk_at "ar") hs ?_
      have hlt := fun x => decF_lt (l := t) (i := b) (x := x)
      revert h hlt
      generalize decF t b = o
      intro h hlt
      cases o with
      | none =>
        simp only [decD]
        repeat' walk_at "pe"
        exact h
      | some x =>
        obtain ⟨v, e⟩ := x
        have hlt := hlt _ rfl
        simp only at hlt h
        simp only [decD]
        repeat' walk_at "pe"
        refine ite_eqN (fun hc => ?_) fun hc => ?_
        · rw [if_pos hc] at h
          repeat' walk_at "pe"
          refine turned_spec v m hlt ?_
          repeat' walk_at "pe"
          exact h
        · rw [if_neg hc] at h
          repeat' walk_at "pe"
          exact h
theorem parse_float_spec {k : Nat} (l : List Nat) (hl : l.length ≤ 200) {Ψ : Dat → Prop} (h : Ψ (.int (pfF l : Nat))) : FSpec (k + 6) (Str.ofString "parse_float") [DS l] Ψ := by
  refine FSpec.of_body (mem_rec (k := 61) rfl ⟨rfl, rfl, rfl⟩) (by walk_at "bind") (by decide +kernel) ?_
  change PS _ _ _ [(Str.ofString "text", DS l)] _ _
  unfold pfF at h
  repeat' walk_at "ps"
  refine skip_blanks_spec l 0 (by walk_at "ar") (by walk_at "ar") ?_
  have h0 := skipF_le (l := l) (i := 0) (by walk_at "ar")
  repeat' walk_at "ps"
  refine sign_at_spec l _ (by walk_at "ar") ?_
  have hs := signF_le h0
  generalize signF l (skipF l 0) = q at *
  obtain ⟨m, b⟩ := q
  simp only at h hs ⊢
  repeat' walk_at "ps"
  refine decimal_at_spec l b (by walk_at "ar") hs ?_
  have hlt := fun x => decF_lt (l := l) (i := b) (x := x)
  revert h hlt
  generalize decF l b = o
  intro h hlt
  cases o with
  | none =>
    simp only [decD]
    repeat' walk_at "pe"
    exact h
  | some x =>
    obtain ⟨v, e⟩ := x
    have hlt := hlt _ rfl
    simp only at hlt h
    simp only [decD]
    repeat' walk_at "pe"
    refine turned_spec v m hlt ?_
    repeat' walk_at "pe"
    exact h

theorem parse_int_spec {k : Nat} (l : List Nat) (r : Nat) (hl : l.length ≤ 200) {Ψ : Dat → Prop} (h : Ψ (.int (piF l r : Nat))) : FSpec (k + 6) (Str.ofString "parse_int") [DS l, .int r] Ψ := by
  refine FSpec.of_body (mem_rec (k := 62) rfl ⟨rfl, rfl, rfl⟩) (by walk_at "bind") (by decide +kernel) ?_
  change PS _ _ _ [(Str.ofString "radix", .int r), (Str.ofString "text", DS l)] _ _
  have ex : lt "0x" = [48, 120] := by decide +kernel
  have eX : lt "0X" = [48, 88] := by decide +kernel
  unfold piF at h
  repeat' walk_at "ps"
  refine skip_blanks_spec l 0 (by walk_at "ar") (by walk_at "ar") ?_
  have h0 := skipF_le (l := l) (i := 0) (by walk_at "ar")
  repeat' walk_at "ps"
  refine sign_at_spec l _ (by walk_at "ar") ?_
  have hs := signF_le h0
  generalize signF l (skipF l 0) = q at *
  obtain ⟨m, b⟩ := q
  simp only at h hs ⊢
  repeat' walk_at "ps"
  have e1 : ((r : Int) ≠ 0 ∧ ¬ (2 ≤ (r : Int) ∧ (r : Int) ≤ 36)) ↔ (r ≠ 0 ∧ ¬ (2 ≤ r ∧ r ≤ 36)) := by walk_at "ar"
  have e2 : ((r : Int) = 0) ↔ r = 0 := by walk_at "ar"
  have e3 : ((r : Int) = 16) ↔ r = 16 := by walk_at "ar"
  have e4 : (r : Int).toNat = r := by walk_at "ar"
  simp only [e1, e2, e3, e4] at h
  clear e1 e2 e3 e4
  refine PS.seq ?_
  refine PS1.ite (PT.mono (Ψ := fun x => x = decide (r ≠ 0 ∧ ¬ (2 ≤ r ∧ r ≤ 36))) ?_ ?_)
  · repeat' first | walk_at "pe" | refine ite_neN (fun _ => ?_) fun _ => ?_ | refine ite_dec (fun _ => ?_) fun _ => ?_ | refine ite_ndec (fun _ => ?_) fun _ => ?_
    all_goals first | (symm; apply decide_eq_true; walk_at "ar") | (symm; apply decide_eq_false; walk_at "ar")
  · rintro _ rfl
    refine ite_dec (fun hx => ?_) fun hx => ?_
    · rw [if_pos hx] at h
      repeat' walk_at "ps"
      exact h
    rw [if_neg hx] at h
    refine PS.nil ?_
    refine Then.next ?_
    refine PS.seq ?_
    refine PS1.assign ?hn ?hx ?hc ?hk
    case hn => decide +kernel
    case hx => rfl
    case hc => rfl
    refine PE.mono (Ψ := fun x => x = .bool (decide (cut l b (b + 2) = [48, 120] ∨ cut l b (b + 2) = [48, 88]))) ?_ ?_
    · repeat' walk_at "pe"
      rw [ex]
      refine ite_eqS (fun hc => ?_) fun hc => ?_
      · simp [hc]
      · repeat' walk_at "pe"
        rw [eX]
        by_cases hh : cut l b (b + 2) = [48, 88] <;> simp [hc, hh]
    rintro _ rfl
    obtain ⟨b', hb'⟩ : ∃ x, x = (if (cut l b (b + 2) = [48, 120] ∨ cut l b (b + 2) = [48, 88]) ∧ (r = 0 ∨ r = 16) then b + 2 else b) := ⟨_, rfl⟩
    obtain ⟨r', hr'⟩ : ∃ x, x = (if (cut l b (b + 2) = [48, 120] ∨ cut l b (b + 2) = [48, 88]) ∧ (r = 0 ∨ r = 16) then 16 else r) := ⟨_, rfl⟩
    have er : (if (cut l b (b + 2) = [48, 120] ∨ cut l b (b + 2) = [48, 88]) ∧ (r = 0 ∨ r = 16) then 16 else if r = 0 then 10 else r) = (if r' = 0 then 10 else r') := by
      rw [hr']; split <;> simp
    rw [← hb', er] at h
    have hble : b' ≤ l.length := by
      rw [hb']; split
      · rename_i hh
        have : (cut l b (b + 2)).length = 2 := by rcases hh.1 with e | e <;> rw [e] <;> rfl
        unfold cut at this
        rw [List.length_drop, List.length_take] at this; walk_at "ar"
      · exact hs
    refine Then.next ?_
    refine PS.seqJoin (fun ω ρ => ω = none ∧ ρ.lookup (Str.ofString "text") = some (DS l) ∧ ρ.lookup (Str.ofString "is_minus") = some (.bool m) ∧ ρ.lookup (Str.ofString "begin") = some (.int (b' : Nat)) ∧ ρ.lookup (Str.ofString "radix") = some (.int (r' : Nat))) ?_ ?_
    · refine PS1.ite (PT.mono (Ψ := fun x => x = decide ((cut l b (b + 2) = [48, 120] ∨ cut l b (b + 2) = [48, 88]) ∧ (r = 0 ∨ r = 16))) ?_ ?_)
      · repeat' walk_at "pe"
        refine ite_dec (fun hc => ?_) fun hc => ?_
        · repeat' walk_at "pe"
          refine PCmp.inT (ns := [((0 : Nat) : Int), ((16 : Nat) : Int)]) ?_
          have : ([((0 : Nat) : Int), ((16 : Nat) : Int)].any (· == (r : Int))) = decide (r = 0 ∨ r = 16) := by
            by_cases h0 : r = 0
            · subst h0; rfl
            · by_cases h1 : r = 16
              · subst h1; rfl
              · have a0 : ¬ ((0 : Nat) : Int) = r := by walk_at "ar"
                have a1 : ¬ ((16 : Nat) : Int) = r := by walk_at "ar"
                simp only [List.any_cons, List.any_nil]
                rw [beq_eq_false_iff_ne.mpr a0, beq_eq_false_iff_ne.mpr a1, decide_eq_false (by walk_at "ar")]; rfl
          rw [this]
          refine ite_dec (fun hc2 => ?_) fun hc2 => ?_
          · repeat' walk_at "pe"
            exact (decide_eq_true ⟨hc, hc2⟩).symm
          · exact (decide_eq_false fun hh => hc2 hh.2).symm
        · exact (decide_eq_false fun hh => hc hh.1).symm
      · rintro _ rfl
        refine ite_dec (fun hc => ?_) fun hc => ?_
        · rw [if_pos hc] at hb' hr'
          subst hb'; subst hr'
          repeat' walk_at "pe"
          refine Join.next ?_
          refine ⟨rfl, ?_, ?_, ?_, ?_⟩ <;> walk_at "lk"
        · rw [if_neg hc] at hb' hr'
          subst hb'; subst hr'
          repeat' walk_at "pe"
          refine Join.next ?_
          refine ⟨rfl, ?_, ?_, ?_, ?_⟩ <;> walk_at "lk"
    · rintro ω ρ ⟨rfl, w1, w2, w3, w4⟩
      have hr64 : (if r' = 0 then 10 else r') ≤ 36 := by rw [hr']; (repeat' split) <;> walk_at "ar"
      clear hr' hb' er hx ex eX
      have hr1 := runF_le (r := if r' = 0 then 10 else r') hble
      have hr2 := runF_ge (l := l) (i := b') (r := if r' = 0 then 10 else r')
      have hxx : worthF l b' (runF l b' (if r' = 0 then 10 else r')) (if r' = 0 then 10 else r') < 2 ^ 3000 := lt3000 (foldF_small _ (by walk_at "ar") (Nat.le_trans cut_len2 (by walk_at "ar"))) (by decide)
      by_cases h0 : r' = 0
      · rw [if_pos h0] at hr1 hr2 h hr64 hxx
        repeat' walk_at "pe"
        refine ite_eqN (fun _ => ?_) fun hh => absurd h0 hh
        repeat' walk_at "pe"
        refine run_end_spec l b' 10 (by walk_at "ar") hble ?_
        repeat' walk_at "pe"
        refine ite_eqN (fun hc => ?_) fun hc => ?_
        · rw [if_pos hc] at h
          repeat' walk_at "pe"
          exact h
        rw [if_neg hc] at h
        repeat' walk_at "pe"
        refine ite_eqN (fun _ => ?_) fun hh => absurd h0 hh
        repeat' walk_at "pe"
        refine worth_spec l b' _ 10 (by walk_at "ar") hr2 hr1 (by decide) ?_
        repeat' walk_at "pe"
        refine from_int_spec _ hxx ?_
        repeat' walk_at "pe"
        refine turned_spec _ m (rrF_lt (by decide)) ?_
        repeat' walk_at "pe"
        exact h
      · rw [if_neg h0] at hr1 hr2 h hr64 hxx
        repeat' walk_at "pe"
        refine ite_eqN (fun hh => absurd hh h0) fun _ => ?_
        repeat' walk_at "pe"
        refine run_end_spec l b' r' (by walk_at "ar") hble ?_
        repeat' walk_at "pe"
        refine ite_eqN (fun hc => ?_) fun hc => ?_
        · rw [if_pos hc] at h
          repeat' walk_at "pe"
          exact h
        rw [if_neg hc] at h
        repeat' walk_at "pe"
        refine ite_eqN (fun hh => absurd hh h0) fun _ => ?_
        repeat' walk_at "pe"
        refine worth_spec l b' _ r' (by walk_at "ar") hr2 hr1 (by walk_at "ar") ?_
        repeat' walk_at "pe"
        refine from_int_spec _ hxx ?_
        repeat' walk_at "pe"
        refine turned_spec _ m (rrF_lt (by decide)) ?_
        repeat' walk_at "pe"
        exact h
noncomputable def scF (m : Nat) (e : Int) : Nat × Nat × Nat × Nat :=
  let edge := m = 2 ^ 52 ∧ -1074 < e
  let f := if edge then 4 else 2
  let a := if edge then 2 else 1
  (m * f * 2 ^ e.toNat, a * 2 ^ e.toNat, 2 ^ e.toNat, f * 2 ^ (-e).toNat)
theorem scaled_spec {k : Nat} (m : Nat) (e : Int) (hm : m < 2 ^ 53) (he : -1074 ≤ e) (he2 : e ≤ 1000) {Ψ : Dat → Prop}
    (h : Ψ (.tuple [.int ((scF m e).1 : Nat), .int ((scF m e).2.1 : Nat), .int ((scF m e).2.2.1 : Nat), .int ((scF m e).2.2.2 : Nat)])) : FSpec (k + 1) (Str.ofString "scaled") [.int m, .int e] Ψ := by
  refine FSpec.of_body (mem_rec (k := 28) rfl ⟨rfl, rfl, rfl⟩) (by walk_at "bind") (by decide +kernel) ?_
  change PS _ _ _ [(Str.ofString "power", .int e), (Str.ofString "mantissa", .int m)] _ _
  refine PS.seq ?_
  refine PS1.assign ?hn ?hx ?hc ?hk
  case hn => decide +kernel
  case hx => rfl
  case hc => rfl
  refine PE.mono (Ψ := fun x => x = .bool (decide (m = 2 ^ 52 ∧ -1074 < e))) ?_ ?_
  · repeat' walk_at "pe"
    refine ite_eqN (fun hc => ?_) fun hc => ?_
    · repeat' walk_at "pe"
      congr 1
      exact decide_eq_decide.mpr ⟨fun hh => ⟨hc, hh⟩, fun hh => hh.2⟩
    · rw [decide_eq_false fun hh => hc hh.1]
  rintro _ rfl
  have sm : Sm m := Sm_le hm (by decide)
  have h' : ∀ edge : Bool, edge = decide (m = 2 ^ 52 ∧ -1074 < e) → Ψ (.tuple [.int ((m * (if edge then 4 else 2) * 2 ^ e.toNat : Nat) : Int), .int (((if edge then 2 else 1) * 2 ^ e.toNat : Nat) : Int), .int ((2 ^ e.toNat : Nat) : Int), .int (((if edge then 4 else 2) * 2 ^ (-e).toNat : Nat) : Int)]) := by
    rintro _ rfl
    unfold scF at h
    by_cases hc : m = 2 ^ 52 ∧ -1074 < e
    · simpa [hc] using h
    · simpa [hc] using h
  clear h
  generalize hedge : decide (m = 2 ^ 52 ∧ -1074 < e) = edge at *
  have h := h' edge rfl
  clear h' hedge
  have s1 : Sm (m * 4) := Sm_le (mul_pow_lt hm (show 4 < 2 ^ 3 by decide)) (by decide)
  have s2 : Sm (m * 2) := Sm_le (mul_pow_lt hm (show 2 < 2 ^ 3 by decide)) (by decide)
  cases edge <;> simp only [if_true, Bool.false_eq_true, if_false] at h
  all_goals
    repeat' walk_at "pe"
    refine ite_dec (fun hc => ?_) fun hc => ?_
    · obtain ⟨x, rfl⟩ := Int.eq_ofNat_of_zero_le (show 0 ≤ e by walk_at "ar")
      have hx : (Int.ofNat x).toNat = x := rfl
      rw [show (-(x : Int)).toNat = 0 by walk_at "ar", show (x : Int).toNat = x by walk_at "ar"] at h
      repeat' walk_at "pe"
      simpa using h
    · obtain ⟨x, hx⟩ := Int.eq_ofNat_of_zero_le (show 0 ≤ -e by walk_at "ar")
      rw [hx, show e.toNat = 0 by walk_at "ar", show (x : Int).toNat = x by walk_at "ar"] at h
      have e1 : ((0 : Nat) : Int) - e = x := by walk_at "ar"
      repeat' walk_at "pe"
      rw [e1]
      repeat' walk_at "pe"
      simpa using h

theorem decimal_place_spec {k : Nat} (t b : Nat) (n : Int) (ht : 0 < t) (hb : 0 < b) (ht2 : t < 2 ^ 1900) (hb2 : b < 2 ^ 1900) (hn1 : LT10 t b n) (hn2 : ¬ LT10 t b (n - 1)) {Ψ : Dat → Prop} (h : Ψ (.int n)) :
    FSpec (k + 1) (Str.ofString "decimal_place") [.int t, .int b] Ψ := by
  refine FSpec.of_body (mem_rec (k := 29) rfl ⟨rfl, rfl, rfl⟩) (by walk_at "bind") (by decide +kernel) ?_
  change PS _ _ _ [(Str.ofString "bottom", .int b), (Str.ofString "top", .int t)] _ _
  have l1 := dg_short ht2
  have l2 := dg_short hb2
  obtain ⟨g1, g2⟩ := LT10.lens ht hb
  have s1 : Sm t := Sm_le ht2 (by decide)
  have s2 : Sm b := Sm_le hb2 (by decide)
  repeat' walk_at "ps"
  generalize hf : ((dg t).length : Int) - (dg b).length = f at *
  have hfl : -1000 ≤ f ∧ f ≤ 1000 := by walk_at "ar"
  have yes : LT10 t b f → f = n := fun hh => hh.unique g2 hn1 hn2
  have no : ¬ LT10 t b f → f + ((1 : Nat) : Int) = n := fun hh => LT10.unique g1 (by rw [show f + ((1 : Nat) : Int) - 1 = f by walk_at "ar"]; exact hh) hn1 hn2
  have big : ∀ x : Nat, x ≤ 1000 → Sm (10 ^ x) := fun x hx => by
    have h1 : 10 ^ x ≤ 10 ^ 1000 := Nat.pow_le_pow_right (by decide) hx
    have h2 : 10 ^ 1000 < 2 ^ 8000 := by decide +kernel
    exact Nat.lt_of_le_of_lt h1 h2
  clear ht2 hb2 g1 g2 hf l1 l2 hn1 hn2
  by_cases hc : 0 ≤ f
  · obtain ⟨x, rfl⟩ := Int.eq_ofNat_of_zero_le hc
    have hxl : x ≤ 1000 := by walk_at "ar"
    have bx := big x hxl
    have lt : LT10 t b x ↔ t < b * 10 ^ x := by
      unfold LT10
      rw [show (-(x : Int)).toNat = 0 by walk_at "ar", show (x : Int).toNat = x by walk_at "ar", Nat.pow_zero, Nat.mul_one]
    clear big hfl
    repeat' walk_at "pe"
    refine ite_dec (fun _ => ?_) fun hh => absurd (Nat.zero_le _) hh
    repeat' walk_at "pe"
    refine ite_dec (fun h2 => ?_) fun h2 => ?_
    · repeat' walk_at "pe"
      have := no (fun hh => by have := lt.mp hh; walk_at "ar")
      rw [show ((x + 1 : Nat) : Int) = n by walk_at "ar"]; exact h
    · repeat' walk_at "pe"
      refine ite_dec (fun hh => absurd hh (by walk_at "ar")) fun _ => ?_
      repeat' walk_at "pe"
      rw [yes (lt.mpr (by walk_at "ar"))]; exact h
  · obtain ⟨x, hx⟩ := Int.eq_ofNat_of_zero_le (show 0 ≤ -f by walk_at "ar")
    have hxl : x ≤ 1000 := by walk_at "ar"
    have bx := big x hxl
    have e1 : ((0 : Nat) : Int) - f = x := by walk_at "ar"
    have lt : LT10 t b f ↔ t * 10 ^ x < b := by
      unfold LT10
      rw [hx, show f.toNat = 0 by walk_at "ar", show (x : Int).toNat = x by walk_at "ar", Nat.pow_zero, Nat.mul_one]
    clear big hfl
    repeat' walk_at "pe"
    refine ite_dec (fun hh => absurd hh hc) fun _ => ?_
    repeat' walk_at "pe"
    refine ite_dec (fun _ => ?_) fun hh => absurd (by walk_at "ar") hh
    repeat' walk_at "pe"
    rw [e1]
    repeat' walk_at "pe"
    refine ite_dec (fun h2 => ?_) fun h2 => ?_
    · repeat' walk_at "pe"
      have := no (fun hh => by have := lt.mp hh; walk_at "ar")
      rw [this]; exact h
    · repeat' walk_at "pe"
      rw [yes (lt.mpr (by walk_at "ar"))]; exact h

/-- 1 more, if the greatest text of the range reaches the next place -/
noncomputable def fpF (number above unit : Nat) (ev : Bool) (n : Int) : Int :=
  if unit * 10 ^ n.toNat < (number + above) * 10 ^ (-n).toNat ∨ (ev = true ∧ (number + above) * 10 ^ (-n).toNat = unit * 10 ^ n.toNat) then n + 1 else n
theorem first_place_spec {k : Nat} (a v u : Nat) (ev : Bool) (n : Int) (ha : 0 < a) (hu : 0 < u) (ha2 : a < 2 ^ 1900) (hv2 : v < 2 ^ 1900) (hu2 : u < 2 ^ 1900) (hn : -1000 ≤ n ∧ n ≤ 1000) (hn1 : LT10 a u n) (hn2 : ¬ LT10 a u (n - 1)) {Ψ : Dat → Prop} (h : Ψ (.int (fpF a v u ev n))) :
    FSpec (k + 2) (Str.ofString "first_place") [.int a, .int v, .int u, .bool ev] Ψ := by
  refine FSpec.of_body (mem_rec (k := 30) rfl ⟨rfl, rfl, rfl⟩) (by walk_at "bind") (by decide +kernel) ?_
  change PS _ _ _ [(Str.ofString "is_even", .bool ev), (Str.ofString "unit", .int u), (Str.ofString "above", .int v), (Str.ofString "number", .int a)] _ _
  repeat' walk_at "ps"
  refine decimal_place_spec a u n ha hu ha2 hu2 hn1 hn2 ?_
  have s1 : Sm (a + v) := by
    have : a + v < 2 ^ 1901 := by rw [Nat.pow_succ]; walk_at "ar"
    exact Sm_le this (by decide)
  have s2 : Sm u := Sm_le hu2 (by decide)
  have big : ∀ x : Nat, x ≤ 1000 → Sm (10 ^ x) := fun x hx => by
    have h1 : 10 ^ x ≤ 10 ^ 1000 := Nat.pow_le_pow_right (by decide) hx
    have h2 : 10 ^ 1000 < 2 ^ 8000 := by decide +kernel
    exact Nat.lt_of_le_of_lt h1 h2
  clear ha2 hv2 hu2 hn1 hn2
  repeat' walk_at "ps"
  unfold fpF at h
  refine PS.seqJoin (fun ω ρ => ω = none ∧ ρ.lookup (Str.ofString "found") = some (.int n) ∧ ρ.lookup (Str.ofString "is_even") = some (.bool ev) ∧ ρ.lookup (Str.ofString "edge") = some (.int ((a + v) * 10 ^ (-n).toNat : Nat)) ∧ ρ.lookup (Str.ofString "limit") = some (.int (u * 10 ^ n.toNat : Nat))) ?_ ?_
  · by_cases hc : 0 ≤ n
    · obtain ⟨x, rfl⟩ := Int.eq_ofNat_of_zero_le hc
      have hxl : x ≤ 1000 := by walk_at "ar"
      have bx := big x hxl
      rw [show (-(x : Int)).toNat = 0 by walk_at "ar", show (x : Int).toNat = x by walk_at "ar", Nat.pow_zero, Nat.mul_one]
      clear big hn
      repeat' walk_at "pe"
      refine ite_dec (fun _ => ?_) fun hh => absurd (Nat.zero_le _) hh
      repeat' walk_at "pe"
      refine Join.next ?_
      refine ⟨rfl, ?_, ?_, ?_, ?_⟩ <;> walk_at "lk"
    · obtain ⟨x, hx⟩ := Int.eq_ofNat_of_zero_le (show 0 ≤ -n by walk_at "ar")
      have hxl : x ≤ 1000 := by walk_at "ar"
      have bx := big x hxl
      have e1 : ((0 : Nat) : Int) - n = x := by walk_at "ar"
      rw [hx, show n.toNat = 0 by walk_at "ar", show (x : Int).toNat = x by walk_at "ar", Nat.pow_zero, Nat.mul_one]
      clear big hn
      repeat' walk_at "pe"
      refine ite_dec (fun hh => absurd hh hc) fun _ => ?_
      repeat' walk_at "pe"
      rw [e1]
      repeat' walk_at "pe"
      refine Join.next ?_
      refine ⟨rfl, ?_, ?_, ?_, ?_⟩ <;> walk_at "lk"
  · rintro ω ρ ⟨rfl, w1, w2, w3, w4⟩
    generalize (a + v) * 10 ^ (-n).toNat = e at *
    generalize u * 10 ^ n.toNat = l at *
    clear big s1 s2
    repeat' walk_at "pe"
    refine ite_dec (fun h1 => ?_) fun h1 => ?_
    · rw [if_pos (.inl h1)] at h
      repeat' walk_at "pe"
      exact h
    · repeat' walk_at "pe"
      refine ite_b (fun h2 => ?_) fun h2 => ?_
      · repeat' walk_at "pe"
        refine ite_eqN (fun h3 => ?_) fun h3 => ?_
        · rw [if_pos (.inr ⟨h2, h3⟩)] at h
          repeat' walk_at "pe"
          exact h
        · rw [if_neg (fun hh => hh.elim h1 fun hh => h3 hh.2)] at h
          repeat' walk_at "pe"
          exact h
      · rw [if_neg (fun hh => hh.elim h1 fun hh => by rw [h2] at hh; exact Bool.noConfusion hh.1)] at h
        repeat' walk_at "pe"
        exact h
noncomputable def lfF (f r u : Nat) (lo hi : Bool) : Nat :=
  if lo = true ∧ hi = true then (if 2 * r = u then f + f % 2 else if u < 2 * r then f + 1 else f)
  else if hi = true then f + 1 else f
theorem last_figure_spec {k : Nat} (f r u : Nat) (lo hi : Bool) (hr : Sm r) {Ψ : Dat → Prop} (h : Ψ (.int (lfF f r u lo hi : Nat))) : FSpec (k + 1) (Str.ofString "last_figure") [.int f, .int r, .int u, .bool lo, .bool hi] Ψ := by
  refine FSpec.of_body (mem_rec (k := 32) rfl ⟨rfl, rfl, rfl⟩) (by walk_at "bind") (by decide +kernel) ?_
  change PS _ _ _ [(Str.ofString "is_high", .bool hi), (Str.ofString "is_low", .bool lo), (Str.ofString "unit", .int u), (Str.ofString "rest", .int r), (Str.ofString "figure", .int f)] _ _
  unfold lfF at h
  cases lo <;> cases hi <;> simp only [true_and, and_true, and_false, false_and, if_true, if_false, Bool.false_eq_true] at h
  · repeat' walk_at "pe"
    simpa using h
  · repeat' walk_at "pe"
    simpa using h
  · repeat' walk_at "pe"
    simpa using h
  · repeat' walk_at "pe"
    refine ite_eqN (fun h1 => ?_) fun h1 => ?_
    · rw [if_pos h1] at h
      repeat' walk_at "pe"
      exact h
    · rw [if_neg h1] at h
      repeat' walk_at "pe"
      by_cases h2 : u < 2 * r
      · simpa [h2] using h
      · simpa [h2] using h

noncomputable def seF (e : Int) : List Nat := [101] ++ (if e < 0 then [45] else [43]) ++ dg e.natAbs
theorem signed_exponent_spec {k : Nat} (e : Int) (he : e.natAbs < 2 ^ 1000) {Ψ : Dat → Prop} (h : Ψ (DS (seF e))) : FSpec (k + 1) (Str.ofString "signed_exponent") [.int e] Ψ := by
  refine FSpec.of_body (mem_rec (k := 33) rfl ⟨rfl, rfl, rfl⟩) (by walk_at "bind") (by decide +kernel) ?_
  change PS _ _ _ [(Str.ofString "exponent", .int e)] _ _
  unfold seF at h
  have ee : lt "e" = [101] := by decide +kernel
  have em : lt "-" = [45] := by decide +kernel
  have ep : lt "+" = [43] := by decide +kernel
  have hs : e.natAbs < 2 ^ 1900 := Nat.lt_of_lt_of_le he (Nat.pow_le_pow_right (by decide) (by decide))
  have hl := dg_short hs
  clear he
  repeat' walk_at "pe"
  refine ite_dec (fun h1 => ?_) fun h1 => ?_
  · rw [if_pos (by simpa using h1)] at h
    repeat' first | walk_at "pe" | rw [ee] | rw [em]
    exact h
  · rw [if_neg (by simpa using h1)] at h
    repeat' first | walk_at "pe" | rw [ee] | rw [ep]
    exact h
noncomputable def weF (f : List Nat) (e : Int) : List Nat := f.take 1 ++ (if 1 < f.length then [46] ++ f.drop 1 else []) ++ seF e
theorem seF_len {e : Int} (he : e.natAbs < 2 ^ 1000) : (seF e).length ≤ 1002 := by
  have := dg_short (Nat.lt_of_lt_of_le he (Nat.pow_le_pow_right (by decide) (show 1000 ≤ 1900 by decide)))
  unfold seF
  simp only [List.length_append, List.length_cons, List.length_nil]
  split <;> simp <;> walk_at "ar"
theorem with_exponent_spec {k : Nat} (f : List Nat) (e : Int) (hf : f.length ≤ 1000) (he : e.natAbs < 2 ^ 1000) {Ψ : Dat → Prop} (h : Ψ (DS (weF f e))) : FSpec (k + 2) (Str.ofString "with_exponent") [DS f, .int e] Ψ := by
  refine FSpec.of_body (mem_rec (k := 34) rfl ⟨rfl, rfl, rfl⟩) (by walk_at "bind") (by decide +kernel) ?_
  change PS _ _ _ [(Str.ofString "exponent", .int e), (Str.ofString "figures", DS f)] _ _
  have ep : lt "." = [46] := by decide +kernel
  have en : lt "" = [] := by decide +kernel
  unfold weF at h
  have hl := seF_len he
  repeat' walk_at "pe"
  refine ite_dec (fun h1 => ?_) fun h1 => ?_
  · rw [if_pos h1] at h
    repeat' first | walk_at "pe" | rw [ep]
    refine signed_exponent_spec e he ?_
    clear he
    repeat' walk_at "pe"
    exact h
  · rw [if_neg h1] at h
    repeat' first | walk_at "pe" | rw [en]
    refine signed_exponent_spec e he ?_
    clear he
    repeat' walk_at "pe"
    exact h
noncomputable def zs (n : Nat) : List Nat := List.replicate n 48
noncomputable def loF (f : List Nat) (p : Int) : List Nat :=
  if (f.length : Int) ≤ p ∧ p ≤ 21 then f ++ zs (p - f.length).toNat
  else if 0 < p ∧ p ≤ 21 then f.take p.toNat ++ [46] ++ f.drop p.toNat
  else if -6 < p ∧ p ≤ 0 then [48, 46] ++ zs (-p).toNat ++ f
  else weF f (p - 1)
theorem zs_flat (n : Nat) : (List.replicate n [48]).flatten = zs n := by
  induction n with
  | zero => rfl
  | succ n ih => rw [List.replicate_succ, List.flatten_cons, ih]; rfl
theorem PBin.zeros {y : Int} {Ψ : Dat → Prop} (h0 : -100000 ≤ y) (h1 : y ≤ 100000) (h : Ψ (DS (zs y.toNat))) : PBin .Mult (DS [48]) (.int y) Ψ := PBin.rep h0 h1 (by decide) (by rw [zs_flat]; exact h)
theorem laid_out_spec {k : Nat} (f : List Nat) (p : Int) (hf : f.length ≤ 1000) (hp : -1000 ≤ p ∧ p ≤ 1000) {Ψ : Dat → Prop} (h : Ψ (DS (loF f p))) : FSpec (k + 3) (Str.ofString "laid_out") [DS f, .int p] Ψ := by
  refine FSpec.of_body (mem_rec (k := 35) rfl ⟨rfl, rfl, rfl⟩) (by walk_at "bind") (by decide +kernel) ?_
  change PS _ _ _ [(Str.ofString "place", .int p), (Str.ofString "figures", DS f)] _ _
  have e0 : lt "0" = [48] := by decide +kernel
  have ep : lt "." = [46] := by decide +kernel
  have e0p : lt "0." = [48, 46] := by decide +kernel
  unfold loF at h
  repeat' walk_at "ps"
  refine PS.seq ?_
  refine PS1.ite (PT.mono (Ψ := fun x => x = decide ((f.length : Int) ≤ p ∧ p ≤ 21)) ?_ ?_)
  · repeat' first | walk_at "pe" | refine ite_dec (fun _ => ?_) fun _ => ?_
    · exact decide_eq_decide.mpr (by walk_at "ar")
    · symm; apply decide_eq_false; walk_at "ar"
  rintro _ rfl
  refine ite_dec (fun h1 => ?_) fun h1 => ?_
  · rw [if_pos h1] at h
    have hz : (zs (p - f.length).toNat).length ≤ 1000 := by unfold zs; rw [List.length_replicate]; walk_at "ar"
    repeat' first | walk_at "pe" | rw [e0]
    refine PBin.zeros (by walk_at "ar") (by walk_at "ar") ?_
    repeat' walk_at "pe"
    exact h
  rw [if_neg h1] at h
  refine PS.nil ?_
  refine Then.next ?_
  refine PS.seq ?_
  refine PS1.ite (PT.mono (Ψ := fun x => x = decide (0 < p ∧ p ≤ 21)) ?_ ?_)
  · repeat' first | walk_at "pe" | refine ite_dec (fun _ => ?_) fun _ => ?_
    · exact decide_eq_decide.mpr (by walk_at "ar")
    · symm; apply decide_eq_false; walk_at "ar"
  rintro _ rfl
  refine ite_dec (fun h2 => ?_) fun h2 => ?_
  · rw [if_pos h2] at h
    obtain ⟨x, rfl⟩ := Int.eq_ofNat_of_zero_le (show 0 ≤ p by walk_at "ar")
    have h : Ψ (DS (f.take x ++ [46] ++ f.drop x)) := h
    have v1 : (f.take x).length + ([46] : List Nat).length ≤ 16777216 := by rw [List.length_take]; exact with_one (by walk_at "ar")
    have v2 : (f.take x ++ [46]).length + (f.drop x).length ≤ 16777216 := by
      simp only [List.length_append, List.length_take, List.length_drop, List.length_cons, List.length_nil]; exact first_cut (by walk_at "ar")
    repeat' first | walk_at "pe" | rw [ep]
    exact h
  rw [if_neg h2] at h
  refine PS.nil ?_
  refine Then.next ?_
  refine PS.seq ?_
  refine PS1.ite (PT.mono (Ψ := fun x => x = decide (-6 < p ∧ p ≤ 0)) ?_ ?_)
  · repeat' first | walk_at "pe" | refine ite_dec (fun _ => ?_) fun _ => ?_
    · exact decide_eq_decide.mpr (by walk_at "ar")
    · symm; apply decide_eq_false; walk_at "ar"
  rintro _ rfl
  refine ite_dec (fun h3 => ?_) fun h3 => ?_
  · rw [if_pos h3] at h
    have hz : (zs (-p).toNat).length ≤ 1000 := by unfold zs; rw [List.length_replicate]; walk_at "ar"
    have e1 : ((0 : Nat) : Int) - p = -p := by walk_at "ar"
    repeat' first | walk_at "pe" | rw [e0p]
    rw [e0, e1]
    refine PBin.zeros (by walk_at "ar") (by walk_at "ar") ?_
    repeat' walk_at "pe"
    exact h
  rw [if_neg h3] at h
  repeat' walk_at "pe"
  refine with_exponent_spec f _ hf ?_ ?_
  · exact Nat.lt_of_le_of_lt (show (p - ((1 : Nat) : Int)).natAbs ≤ 2000 by walk_at "ar") (Nat.lt_of_lt_of_le (show 2000 < 2 ^ 11 by decide) (Nat.pow_le_pow_right (by decide) (by decide)))
  · repeat' walk_at "pe"
    exact h
theorem shortest_spec {k : Nat} (b s m : Nat) (e : Int) (n P : Int) (N K : Nat) (hb : partsF b = (s, m, e)) (hm : m < 2 ^ 53) (hm0 : 0 < m) (he : -300 ≤ e ∧ e ≤ 300) (hn : -100 ≤ n ∧ n ≤ 100) (hP : fpF (scF m e).1 (scF m e).2.1 (scF m e).2.2.2 (m % 2 == 0) n = P)
    (hn1 : LT10 (scF m e).1 (scF m e).2.2.2 n) (hn2 : ¬ LT10 (scF m e).1 (scF m e).2.2.2 (n - 1)) (hK : K ≤ 15)
    (g : Gen ((scF m e).1 * 10 ^ (-P).toNat) ((scF m e).2.1 * 10 ^ (-P).toNat) ((scF m e).2.2.1 * 10 ^ (-P).toNat) ((scF m e).2.2.2 * 10 ^ P.toNat) (m % 2 == 0) N K)
    {Ψ : Dat → Prop} (h : Ψ (.tuple [DS (dg N), .int P])) : FSpec (k + 3) (Str.ofString "shortest") [.int b] Ψ := by
  refine FSpec.of_body (mem_rec (k := 31) rfl ⟨rfl, rfl, rfl⟩) (by walk_at "bind") (by decide +kernel) ?_
  change PS _ _ _ [(Str.ofString "bits", .int b)] _ _
  have hPn : -101 ≤ P ∧ P ≤ 101 := by rw [← hP]; unfold fpF; split <;> walk_at "ar"
  have bds : (scF m e).1 < 2 ^ 400 ∧ (scF m e).2.1 < 2 ^ 400 ∧ (scF m e).2.2.1 < 2 ^ 400 ∧ (scF m e).2.2.2 < 2 ^ 400 ∧ 0 < (scF m e).1 ∧ 0 < (scF m e).2.2.2 := by
    have p1 : 2 ^ e.toNat < 2 ^ 301 := Nat.pow_lt_pow_right (by decide) (by walk_at "ar")
    have p2 : 2 ^ (-e).toNat < 2 ^ 301 := Nat.pow_lt_pow_right (by decide) (by walk_at "ar")
    have q1 := Nat.two_pow_pos e.toNat
    have q2 := Nat.two_pow_pos (-e).toNat
    have go : ∀ {x y z c : Nat}, x < 2 ^ c → y < 2 ^ 301 → c + 301 ≤ z → x * y < 2 ^ z := fun h1 h2 h3 => Nat.lt_of_lt_of_le (mul_pow_lt h1 h2) (Nat.pow_le_pow_right (by decide) h3)
    have f4 : (if m = 2 ^ 52 ∧ -1074 < e then 4 else 2) < 2 ^ 3 := by split <;> decide
    have f2 : (if m = 2 ^ 52 ∧ -1074 < e then 2 else 1) < 2 ^ 3 := by split <;> decide
    have f4' : 0 < (if m = 2 ^ 52 ∧ -1074 < e then 4 else 2) := by split <;> decide
    unfold scF
    exact ⟨go (mul_pow_lt hm f4) p1 (by decide), go f2 p1 (by decide), Nat.lt_trans p1 (Nat.pow_lt_pow_right (by decide) (by decide)), go f4 p2 (by decide), Nat.mul_pos (Nat.mul_pos hm0 f4') q1, Nat.mul_pos f4' q2⟩
  repeat' walk_at "ps"
  refine parts_spec b ?_
  rw [hb]
  simp only
  repeat' walk_at "ps"
  refine scaled_spec m e hm (by walk_at "ar") (by walk_at "ar") ?_
  have eev : (((m % 2 : Nat) == 0) : Bool) = (m % 2 == 0) := rfl
  generalize scF m e = q at *
  obtain ⟨num, abv, blw, unit⟩ := q
  simp only at bds hP hn1 hn2 g ⊢
  obtain ⟨b1, b2, b3, b4, b5, b6⟩ := bds
  have l19 : ∀ {x}, x < 2 ^ 400 → x < 2 ^ 1900 := fun h => Nat.lt_trans h (Nat.pow_lt_pow_right (by decide) (by decide))
  repeat' walk_at "ps"
  generalize (m % 2 == 0) = ev at *
  refine first_place_spec num abv unit ev n b5 b6 (l19 b1) (l19 b2) (l19 b4) (by walk_at "ar") hn1 hn2 ?_
  rw [hP]
  repeat' walk_at "ps"
  have g0 := g.start
  have pp1 : 10 ^ P.toNat < 2 ^ 400 := Nat.lt_of_le_of_lt (Nat.pow_le_pow_right (by decide) (show P.toNat ≤ 101 by walk_at "ar")) (by decide +kernel)
  have pp2 : 10 ^ (-P).toNat < 2 ^ 400 := Nat.lt_of_le_of_lt (Nat.pow_le_pow_right (by decide) (show (-P).toNat ≤ 101 by walk_at "ar")) (by decide +kernel)
  have pp3 : 0 < 10 ^ P.toNat := Nat.pow_pos (by decide)
  have sU : Sm (unit * 10 ^ P.toNat) := Sm_le (mul_pow_lt b4 pp1) (by decide)
  have pU : 0 < unit * 10 ^ P.toNat := Nat.mul_pos b6 pp3
  have sA : (abv * 10 ^ (-P).toNat) < 2 ^ 800 := mul_pow_lt b2 pp2
  have sB : (blw * 10 ^ (-P).toNat) < 2 ^ 800 := mul_pow_lt b3 pp2
  have t1 : Sm num := Sm_le b1 (by decide)
  have t2 : Sm abv := Sm_le b2 (by decide)
  have t3 : Sm blw := Sm_le b3 (by decide)
  have t4 : Sm unit := Sm_le b4 (by decide)
  have t5 : Sm (10 ^ (-P).toNat) := Sm_le pp2 (by decide)
  have t6 : Sm (10 ^ P.toNat) := Sm_le pp1 (by decide)
  clear hP hn1 hn2 b1 b2 b3 b4 l19 pp1 pp2 hm hb
  refine PS.seqJoin (fun ω ρ => ω = none ∧ ρ.lookup (Str.ofString "place") = some (.int P) ∧ ρ.lookup (Str.ofString "unit") = some (.int (unit * 10 ^ P.toNat : Nat)) ∧ ρ.lookup (Str.ofString "below") = some (.int (blw * 10 ^ (-P).toNat : Nat)) ∧
    ρ.lookup (Str.ofString "above") = some (.int (abv * 10 ^ (-P).toNat : Nat)) ∧ ρ.lookup (Str.ofString "number") = some (.int (num * 10 ^ (-P).toNat : Nat)) ∧ ρ.lookup (Str.ofString "is_even") = some (.bool ev)) ?_ ?_
  · clear g g0 sU pU sA sB
    by_cases hc : 0 ≤ P
    · obtain ⟨x, rfl⟩ := Int.eq_ofNat_of_zero_le hc
      have hxl : x ≤ 1000 := by walk_at "ar"
      have e0 : (-(x : Int)).toNat = 0 := by walk_at "ar"
      have e1 : (x : Int).toNat = x := by walk_at "ar"
      rw [e1] at t6 ⊢
      rw [e0, Nat.pow_zero, Nat.mul_one, Nat.mul_one, Nat.mul_one]
      clear hPn
      repeat' walk_at "pe"
      refine ite_dec (fun _ => ?_) fun hh => absurd (Nat.zero_le _) hh
      repeat' walk_at "pe"
      refine Join.next ?_
      refine ⟨rfl, ?_, ?_, ?_, ?_, ?_, ?_⟩ <;> walk_at "lk"
    · obtain ⟨x, hx⟩ := Int.eq_ofNat_of_zero_le (show 0 ≤ -P by walk_at "ar")
      have hxl : x ≤ 1000 := by walk_at "ar"
      have e0 : ((0 : Nat) : Int) - P = x := by walk_at "ar"
      have e1 : P.toNat = 0 := by walk_at "ar"
      have e2 : (-P).toNat = x := by walk_at "ar"
      rw [e2] at t5 ⊢
      rw [e1, Nat.pow_zero, Nat.mul_one]
      clear hPn
      repeat' walk_at "pe"
      refine ite_dec (fun hh => absurd hh hc) fun _ => ?_
      repeat' walk_at "pe"
      rw [e0]
      repeat' walk_at "pe"
      refine Join.next ?_
      refine ⟨rfl, ?_, ?_, ?_, ?_, ?_, ?_⟩ <;> walk_at "lk"
  rintro ω ρ ⟨rfl, w1, w2, w3, w4, w5, w6⟩
  clear t1 t2 t3 t4 t5 t6
  generalize unit * 10 ^ P.toNat = U at *
  generalize blw * 10 ^ (-P).toNat = B at *
  generalize abv * 10 ^ (-P).toNat = A at *
  generalize num * 10 ^ (-P).toNat = M at *
  clear b5 b6 pp3
  refine PS.seq ?_
  refine PS1.ownNew ?hn ?hl ?hk
  case hn => decide +kernel
  case hl => rfl
  refine PEs.nil ?_
  refine Then.next ?_
  refine PS.seq ?_
  refine PS1.loop (fun i ω ρ => ∃ j r, i = K - j ∧ j < K ∧ GenAt M U N K j r ∧ ω = some (Str.ofString "found", (((dg N).take j).map (fun c => [c])).map DS) ∧ ρ.lookup (Str.ofString "place") = some (.int P) ∧ ρ.lookup (Str.ofString "unit") = some (.int (U : Nat)) ∧
    ρ.lookup (Str.ofString "below") = some (.int (B * 10 ^ j : Nat)) ∧ ρ.lookup (Str.ofString "above") = some (.int (A * 10 ^ j : Nat)) ∧ ρ.lookup (Str.ofString "number") = some (.int (r : Nat)) ∧ ρ.lookup (Str.ofString "is_even") = some (.bool ev)) (K - 0) ?_ ?_
  · refine ⟨0, M, rfl, g.k1, g0, ?_, ?_, ?_, ?_, ?_, ?_, ?_⟩
    · rfl
    · walk_at "lk"
    · walk_at "lk"
    · rw [Nat.pow_zero, Nat.mul_one]; walk_at "lk"
    · rw [Nat.pow_zero, Nat.mul_one]; walk_at "lk"
    · walk_at "lk"
    · walk_at "lk"
  clear w1 w2 w3 w4 w5 w6
  rintro i ω ρ' ⟨j, r, rfl, hj, gj, rfl, w1, w2, w3, w4, w5, w6⟩
  have p15 : 10 ^ j < 2 ^ 60 := Nat.lt_of_le_of_lt (Nat.pow_le_pow_right (by decide) (show j ≤ 15 by walk_at "ar")) (by decide)
  have t1 : Sm (B * 10 ^ j) := Sm_le (mul_pow_lt sB p15) (by decide)
  have t2 : Sm (A * 10 ^ j) := Sm_le (mul_pow_lt sA p15) (by decide)
  have t3 : Sm r := Nat.lt_trans gj.lt sU
  have eB : B * 10 ^ j * 10 = B * 10 ^ (j + 1) := by rw [Nat.pow_succ, Nat.mul_assoc]
  have eA : A * 10 ^ j * 10 = A * 10 ^ (j + 1) := by rw [Nat.pow_succ, Nat.mul_assoc]
  have hdl : (dg N).length = K := by
    have := dg_len (k := K - 1) g.n1 (by rw [show K - 1 + 1 = K by have := g.k1; walk_at "ar"]; exact g.n2)
    have := g.k1; walk_at "ar"
  have hget := dg_getD g.n1 g.n2 g.k1 j hj
  have htake : (dg N).take (j + 1) = (dg N).take j ++ [48 + N / 10 ^ (K - (j + 1)) % 10] := by
    rw [← hget, List.take_succ_eq_append_getElem (by walk_at "ar")]
    simp [hdl, hj]
  have hlen : (((dg N).take j).map (fun c => [c])).length ≤ 100000 := by rw [List.length_map, List.length_take]; walk_at "ar"
  have hU := gj.lt
  repeat' walk_at "st"
  refine PS.seq ?_
  repeat' walk_at "st"
  rw [eA, eB]
  refine Then.next ?_
  refine PS.seq ?_
  repeat' walk_at "st"
  refine Then.next ?_
  refine PS.seq ?_
  repeat' walk_at "st"
  refine Then.next ?_
  have hlast : j + 1 = K → _ := fun hjk => g.last gj hjk
  have hmid : j + 1 < K → _ := fun hjk => g.mid gj hjk
  have hfig : r * 10 / U < 10 := Nat.div_lt_of_lt_mul (by walk_at "ar")
  have hR : r * 10 % U < U := Nat.mod_lt _ pU
  clear gj eA eB t1 t2 t3
  generalize r * 10 / U = fg at *
  generalize hRR : r * 10 % U = R at *
  generalize hAA : A * 10 ^ (j + 1) = a at *
  generalize hBB : B * 10 ^ (j + 1) = bl at *
  refine PS.seq ?_
  walk_at "as"
  refine PE.mono (Ψ := fun x => x = .bool (decide (R < bl ∨ (ev = true ∧ R = bl)))) ?_ ?_
  · repeat' walk_at "st"
    refine ite_dec (fun h1 => ?_) fun h1 => ?_
    · rw [decide_eq_true (show _ ∨ _ from .inl h1)]
    repeat' walk_at "st"
    refine ite_b (fun h2 => ?_) fun h2 => ?_
    · repeat' walk_at "st"
      congr 1
      by_cases h3 : R = bl
      · rw [decide_eq_true (show _ ∨ _ from .inr ⟨h2, h3⟩)]; exact beq_iff_eq.mpr h3
      · rw [decide_eq_false (fun hh => hh.elim h1 fun hh => h3 hh.2)]; exact beq_eq_false_iff_ne.mpr h3
    · rw [decide_eq_false (fun hh => hh.elim h1 fun hh => by rw [h2] at hh; exact Bool.noConfusion hh.1)]
  rintro _ rfl
  refine Then.next ?_
  refine PS.seq ?_
  walk_at "as"
  refine PE.mono (Ψ := fun x => x = .bool (decide (U < R + a ∨ (ev = true ∧ R + a = U)))) ?_ ?_
  · repeat' walk_at "st"
    refine ite_dec (fun h1 => ?_) fun h1 => ?_
    · rw [decide_eq_true (show _ ∨ _ from .inl h1)]
    repeat' walk_at "st"
    refine ite_b (fun h2 => ?_) fun h2 => ?_
    · repeat' walk_at "st"
      congr 1
      by_cases h3 : R + a = U
      · rw [decide_eq_true (show _ ∨ _ from .inr ⟨h2, h3⟩)]; exact beq_iff_eq.mpr h3
      · rw [decide_eq_false (fun hh => hh.elim h1 fun hh => h3 hh.2)]; exact beq_eq_false_iff_ne.mpr h3
    · rw [decide_eq_false (fun hh => hh.elim h1 fun hh => by rw [h2] at hh; exact Bool.noConfusion hh.1)]
  rintro _ rfl
  refine Then.next ?_
  refine PS.seq ?_
  generalize hlow : (decide (R < bl ∨ (ev = true ∧ R = bl))) = low
  generalize hhigh : (decide (U < R + a ∨ (ev = true ∧ R + a = U))) = high
  by_cases hjk : j + 1 < K
  · obtain ⟨m1, m2, m3, m4⟩ := hmid hjk
    have hl0 : low = false := by rw [← hlow]; exact decide_eq_false (by walk_at "ar")
    have hh0 : high = false := by rw [← hhigh]; exact decide_eq_false (by walk_at "ar")
    subst hl0; subst hh0
    clear hlow hhigh
    repeat' walk_at "pe"
    refine PS1.append (by decide +kernel) rfl rfl (by rw [List.length_map]; exact hlen) ?_
    have hfs : fg < 2 ^ 1900 := Nat.lt_trans hfig (show 10 < 2 ^ 1900 by decide +kernel)
    repeat' walk_at "pe"
    refine Turn.next (K - (j + 1)) (by walk_at "ar") ?_
    refine ⟨j + 1, R, rfl, hjk, m4, ?_, ?_, ?_, ?_, ?_, ?_, ?_⟩
    · rw [htake, List.map_append, List.map_append, ← m3, dg_small hfig]; rfl
    · walk_at "lk"
    · walk_at "lk"
    · rw [hBB]; walk_at "lk"
    · rw [hAA]; walk_at "lk"
    · walk_at "lk"
    · walk_at "lk"
  · have hjK : j + 1 = K := by walk_at "ar"
    have hval : lfF fg R U low high = N % 10 ∧ (low = true ∨ high = true) ∧ ¬ (low = true ∧ high = true) := by
      rcases hlast hjK with ⟨c1, c2, c3⟩ | ⟨c1, c2, c3⟩
      · have hl0 : low = true := by rw [← hlow]; exact decide_eq_true c2
        have hh0 : high = false := by rw [← hhigh]; exact decide_eq_false (by walk_at "ar")
        subst hl0; subst hh0
        exact ⟨by simpa [lfF] using c1, .inl rfl, by simp⟩
      · have hl0 : low = false := by rw [← hlow]; exact decide_eq_false (by walk_at "ar")
        have hh0 : high = true := by rw [← hhigh]; exact decide_eq_true c3
        subst hl0; subst hh0
        exact ⟨by simpa [lfF] using c1, .inr rfl, by simp⟩
    have sR : Sm R := Nat.lt_trans hR sU
    have hns : N % 10 < 2 ^ 1900 := Nat.lt_trans (Nat.mod_lt _ (by decide)) (show 10 < 2 ^ 1900 by decide +kernel)
    refine PS1.ite (PT.mono (Ψ := fun x => x = true) ?_ ?_)
    · repeat' walk_at "st"
      refine ite_b (fun h1 => ?_) fun h1 => ?_
      · rfl
      · repeat' walk_at "st"
        rcases hval.2.1 with hh | hh
        · rw [h1] at hh; exact Bool.noConfusion hh
        · rw [hh]; repeat' walk_at "st"
          rfl
    rintro _ rfl
    repeat' walk_at "pe"
    refine PS1.append (by decide +kernel) rfl rfl (by rw [List.length_map]; exact hlen) ?_
    repeat' walk_at "st"
    refine last_figure_spec fg R U low high sR ?_
    rw [hval.1]
    repeat' walk_at "st"
    have en : lt "" = [] := by decide +kernel
    have hall : (((dg N).take j).map (fun c => [c])).map DS ++ [DS (dg (N % 10))] = ((dg N).map (fun c => [c])).map DS := by
      have e1 : dg N = (dg N).take j ++ [48 + N % 10] := by
        have h1 : (dg N).take (j + 1) = dg N := List.take_of_length_le (by walk_at "ar")
        rw [hjK] at htake h1
        rw [h1] at htake
        rw [Nat.sub_self, Nat.pow_zero, Nat.div_one] at htake
        exact htake
      rw [dg_small (Nat.mod_lt _ (by decide))]
      conv => rhs; rw [e1]
      rw [List.map_append, List.map_append]; rfl
    have hflat : ((dg N).map (fun c => [c])).flatten = dg N := by
      induction dg N with
      | nil => rfl
      | cons c t ih => rw [List.map_cons, List.flatten_cons, ih]; rfl
    refine Then.next ?_
    rw [hall]
    refine PS.freeze ?_
    repeat' walk_at "pe"
    rw [en]
    refine PCall.join ?_ ?_
    · have hsum : ∀ l : List Nat, ((l.map (fun c => [c])).map List.length).sum = l.length := by
        intro l
        induction l with
        | nil => rfl
        | cons c t ih => simp only [List.map_cons, List.sum_cons, ih, List.length_cons, List.length_nil]; walk_at "ar"
      rw [hsum]; walk_at "ar"
    rw [hflat]
    repeat' walk_at "pe"
    exact h
noncomputable def nanT : List Nat := [78, 97, 78]
noncomputable def infT : List Nat := ENDLESSL
noncomputable def woF (b : Nat) : Option (List Nat) := if INFN < b % 2 ^ 63 then some nanT else if b % 2 ^ 63 = INFN then (if b / 2 ^ 63 = 1 then some (45 :: infT) else some infT) else none
noncomputable def optD : Option (List Nat) → Dat
  | some l => DS l
  | none => .none
theorem without_figures_spec {k : Nat} (b : Nat) {Ψ : Dat → Prop} (h : Ψ (optD (woF b))) : FSpec (k + 2) (Str.ofString "without_figures") [.int b] Ψ := by
  refine FSpec.of_body (mem_rec (k := 36) rfl ⟨rfl, rfl, rfl⟩) (by walk_at "bind") (by decide +kernel) ?_
  change PS _ _ _ [(Str.ofString "bits", .int b)] _ _
  have e1 : lt "NaN" = nanT := by decide +kernel
  have e2 : lt "-Infinity" = 45 :: infT := by decide +kernel
  have e3 : lt "Infinity" = infT := by decide +kernel
  unfold woF at h
  repeat' walk_at "pe"
  refine is_nan_spec b ?_
  repeat' walk_at "pe"
  refine ite_dec (fun h1 => ?_) fun h1 => ?_
  · rw [if_pos h1] at h
    repeat' first | walk_at "pe" | rw [e1]
    exact h
  rw [if_neg h1] at h
  repeat' walk_at "pe"
  refine is_inf_spec b ?_
  repeat' walk_at "pe"
  refine ite_eqN (fun h1 => ?_) fun h1 => ?_
  · rw [if_pos h1] at h
    repeat' walk_at "pe"
    refine is_negative_spec b ?_
    repeat' walk_at "pe"
    refine ite_eqN (fun h2 => ?_) fun h2 => ?_
    · rw [if_pos h2] at h
      repeat' first | walk_at "pe" | rw [e2]
      exact h
    · rw [if_neg h2] at h
      repeat' first | walk_at "pe" | rw [e3]
      exact h
  · rw [if_neg h1] at h
    repeat' walk_at "pe"
    exact h

/-- a number above 0 or below 0 that stands for the figures of N, K of them, P their place -/
structure Fl (b s m : Nat) (e : Int) (N K : Nat) (n P : Int) : Prop where
  parts : partsF b = (s, m, e)
  sg : b / 2 ^ 63 = s
  s1 : s ≤ 1
  fin : b % 2 ^ 63 < INFN
  nz : b % 2 ^ 63 ≠ 0
  m1 : m < 2 ^ 53
  m0 : 0 < m
  e1 : -300 ≤ e ∧ e ≤ 300
  n1 : -100 ≤ n ∧ n ≤ 100
  pl : fpF (scF m e).1 (scF m e).2.1 (scF m e).2.2.2 (m % 2 == 0) n = P
  lt1 : LT10 (scF m e).1 (scF m e).2.2.2 n
  lt2 : ¬ LT10 (scF m e).1 (scF m e).2.2.2 (n - 1)
  k : K ≤ 15
  g : Gen ((scF m e).1 * 10 ^ (-P).toNat) ((scF m e).2.1 * 10 ^ (-P).toNat) ((scF m e).2.2.1 * 10 ^ (-P).toNat) ((scF m e).2.2.2 * 10 ^ P.toNat) (m % 2 == 0) N K
section
variable {b s m : Nat} {e : Int} {N K : Nat} {n P : Int}
theorem Fl.wo (F : Fl b s m e N K n P) : woF b = none := by
  have := F.fin
  unfold woF; rw [if_neg (by walk_at "ar"), if_neg (by walk_at "ar")]
theorem Fl.pb (F : Fl b s m e N K n P) : -101 ≤ P ∧ P ≤ 101 := by
  have := F.n1
  rw [← F.pl]; unfold fpF; split <;> walk_at "ar"
theorem Fl.len (F : Fl b s m e N K n P) : (dg N).length = K := by
  have := F.g.k1
  have := dg_len (k := K - 1) F.g.n1 (by rw [show K - 1 + 1 = K by walk_at "ar"]; exact F.g.n2)
  walk_at "ar"
noncomputable def minusF (s : Nat) : List Nat := if s = 1 then [45] else []
theorem loF_len {f : List Nat} {p : Int} (hf : f.length ≤ 100) (hp : -1000 ≤ p ∧ p ≤ 1000) : (loF f p).length ≤ 3000 := by
  unfold loF
  split
  · rw [List.length_append]; unfold zs; rw [List.length_replicate]; walk_at "ar"
  · split
    · simp only [List.length_append, List.length_take, List.length_drop, List.length_cons, List.length_nil]; walk_at "ar"
    · split
      · simp only [List.length_append, List.length_cons, List.length_nil]; unfold zs; rw [List.length_replicate]; walk_at "ar"
      · unfold weF
        have := seF_len (e := p - 1) (Nat.lt_of_le_of_lt (show (p - 1).natAbs ≤ 1001 by walk_at "ar") (Nat.lt_of_lt_of_le (show 1001 < 2 ^ 10 by decide) (Nat.pow_le_pow_right (by decide) (by decide))))
        simp only [List.length_append, List.length_take]
        split
        · simp only [List.length_append, List.length_drop, List.length_cons, List.length_nil]; walk_at "ar"
        · simp only [List.length_nil]; walk_at "ar"
theorem shortestF {j : Nat} (F : Fl b s m e N K n P) {Ψ : Dat → Prop} (h : Ψ (.tuple [DS (dg N), .int P])) : FSpec (j + 3) (Str.ofString "shortest") [.int b] Ψ :=
  shortest_spec b s m e n P N K F.parts F.m1 F.m0 F.e1 F.n1 F.pl F.lt1 F.lt2 F.k F.g h
theorem show_spec {j : Nat} (F : Fl b s m e N K n P) {Ψ : Dat → Prop} (h : Ψ (DS (minusF s ++ loF (dg N) P))) : FSpec (j + 4) (Str.ofString "show") [.int b] Ψ := by
  refine FSpec.of_body (mem_rec (k := 37) rfl ⟨rfl, rfl, rfl⟩) (by walk_at "bind") (by decide +kernel) ?_
  change PS _ _ _ [(Str.ofString "bits", .int b)] _ _
  have e1 : lt "-" = [45] := by decide +kernel
  have e2 : lt "" = [] := by decide +kernel
  repeat' walk_at "ps"
  refine without_figures_spec b ?_
  rw [F.wo]
  simp only [optD]
  repeat' walk_at "pe"
  refine is_zero_spec b ?_
  repeat' walk_at "pe"
  refine ite_eqN (fun hh => absurd hh F.nz) fun _ => ?_
  repeat' walk_at "pe"
  refine shortestF F ?_
  have hP := F.pb
  have hl := F.len
  have hk := F.k
  have hlo := loF_len (f := dg N) (p := P) (by walk_at "ar") (by walk_at "ar")
  repeat' walk_at "pe"
  refine is_negative_spec b ?_
  rw [F.sg]
  unfold minusF at h
  repeat' walk_at "pe"
  refine ite_eqN (fun h2 => ?_) fun h2 => ?_
  · rw [if_pos h2] at h
    repeat' walk_at "pe"
    refine laid_out_spec (dg N) P (by walk_at "ar") (by walk_at "ar") ?_
    rw [e1]
    repeat' walk_at "pe"
    exact h
  · rw [if_neg h2] at h
    repeat' walk_at "pe"
    refine laid_out_spec (dg N) P (by walk_at "ar") (by walk_at "ar") ?_
    rw [e2]
    repeat' walk_at "pe"
    exact h
theorem show_wo {j : Nat} (b : Nat) (l : List Nat) (hb : woF b = some l) {Ψ : Dat → Prop} (h : Ψ (DS l)) : FSpec (j + 4) (Str.ofString "show") [.int b] Ψ := by
  refine FSpec.of_body (mem_rec (k := 37) rfl ⟨rfl, rfl, rfl⟩) (by walk_at "bind") (by decide +kernel) ?_
  change PS _ _ _ [(Str.ofString "bits", .int b)] _ _
  repeat' walk_at "ps"
  refine without_figures_spec b ?_
  rw [hb]
  simp only [optD]
  repeat' walk_at "pe"
  exact h
theorem show_zero {j : Nat} (b : Nat) (hb : b % 2 ^ 63 = 0) {Ψ : Dat → Prop} (h : Ψ (DS [48])) : FSpec (j + 4) (Str.ofString "show") [.int b] Ψ := by
  refine FSpec.of_body (mem_rec (k := 37) rfl ⟨rfl, rfl, rfl⟩) (by walk_at "bind") (by decide +kernel) ?_
  change PS _ _ _ [(Str.ofString "bits", .int b)] _ _
  have e1 : lt "0" = [48] := by decide +kernel
  repeat' walk_at "ps"
  refine without_figures_spec b ?_
  have : woF b = none := by unfold woF INFN; rw [if_neg (by walk_at "ar"), if_neg (by walk_at "ar")]
  rw [this]
  simp only [optD]
  repeat' walk_at "pe"
  refine is_zero_spec b ?_
  repeat' walk_at "pe"
  refine ite_eqN (fun _ => ?_) fun hh => absurd hb hh
  repeat' walk_at "pe"
  rw [e1]; exact h
end
noncomputable def sgF (s m : Nat) : List Nat := if s = 1 ∧ m ≠ 0 then [45] else []
theorem sign_and_ratio_spec {k : Nat} (b s m : Nat) (e : Int) (hb : partsF b = (s, m, e)) (he : e ≤ 1000) {Ψ : Dat → Prop} (h : Ψ (.tuple [DS (sgF s m), .int (m * 2 ^ e.toNat : Nat), .int (2 ^ (-e).toNat : Nat)])) :
    FSpec (k + 3) (Str.ofString "sign_and_ratio") [.int b] Ψ := by
  refine FSpec.of_body (mem_rec (k := 38) rfl ⟨rfl, rfl, rfl⟩) (by walk_at "bind") (by decide +kernel) ?_
  change PS _ _ _ [(Str.ofString "bits", .int b)] _ _
  have e1 : lt "-" = [45] := by decide +kernel
  have e2 : lt "" = [] := by decide +kernel
  repeat' walk_at "ps"
  refine exact_spec b ?_ (by rw [hb]; exact he)
  rw [hb]
  simp only
  unfold sgF at h
  have hp : 0 < 2 ^ e.toNat := Nat.two_pow_pos _
  by_cases hs : s = 1
  · rw [if_pos hs]
    have ea : (-(m : Int) * 2 ^ e.toNat).natAbs = m * 2 ^ e.toNat := by
      rw [Int.natAbs_mul, Int.natAbs_neg, Int.natAbs_natCast]; congr 1
    have ez : -(m : Int) * 2 ^ e.toNat = -((m * 2 ^ e.toNat : Nat) : Int) := by
      rw [Int.neg_mul, Int.natCast_mul, Int.natCast_pow]; rfl
    have el : -(m : Int) * 2 ^ e.toNat < ((0 : Nat) : Int) ↔ m ≠ 0 := by
      rw [ez]
      constructor
      · intro hh h0; rw [h0] at hh; simp at hh
      · intro hh; have := Nat.mul_pos (Nat.pos_of_ne_zero hh) hp; walk_at "ar"
    generalize -(m : Int) * 2 ^ e.toNat = t at *
    repeat' walk_at "pe"
    refine ite_dec (fun h1 => ?_) fun h1 => ?_
    · rw [if_pos ⟨hs, el.mp h1⟩] at h
      repeat' walk_at "pe"
      rw [e1, ea]; exact h
    · rw [if_neg (fun hh => h1 (el.mpr hh.2))] at h
      repeat' walk_at "pe"
      rw [e2, ea]; exact h
  · rw [if_neg hs]
    rw [if_neg (fun hh => hs hh.1)] at h
    have ez : (m : Int) * 2 ^ e.toNat = ((m * 2 ^ e.toNat : Nat) : Int) := by
      rw [Int.natCast_mul, Int.natCast_pow]; rfl
    rw [ez]
    generalize m * 2 ^ e.toNat = t at *
    repeat' walk_at "pe"
    refine ite_dec (fun h1 => absurd h1 (by walk_at "ar")) fun h1 => ?_
    repeat' walk_at "pe"
    rw [e2]; exact h

noncomputable def huF (t d : Nat) : Nat := (2 * t + d) / (2 * d)
theorem half_up_spec {k : Nat} (t d : Nat) (hd : 0 < d) (st : Sm t) (sd : Sm d) (sd2 : Sm (2 * d)) {Ψ : Dat → Prop} (h : Ψ (.int (huF t d : Nat))) : FSpec (k + 1) (Str.ofString "half_up") [.int t, .int d] Ψ := by
  refine FSpec.of_body (mem_rec (k := 39) rfl ⟨rfl, rfl, rfl⟩) (by walk_at "bind") (by decide +kernel) ?_
  change PS _ _ _ [(Str.ofString "bottom", .int d), (Str.ofString "top", .int t)] _ _
  repeat' walk_at "pe"
  exact h
noncomputable def rdN (t d many : Nat) (n : Int) : Nat := huF (t * 10 ^ ((many : Int) - n).toNat) (d * 10 ^ (n - (many : Int)).toNat)
noncomputable def rdF (t d many : Nat) (n : Int) : List Nat × Int := if 10 ^ many ≤ rdN t d many n then (dg (rdN t d many n / 10), n) else (dg (rdN t d many n), n - 1)
theorem ten_lt {x : Nat} (h : x ≤ 300) : 10 ^ x < 2 ^ 1000 := Nat.lt_of_le_of_lt (Nat.pow_le_pow_right (by decide) h) (by decide +kernel)
theorem rounded_spec {k : Nat} (t d many : Nat) (n : Int) (ht : 0 < t) (hd : 0 < d) (ht2 : t < 2 ^ 400) (hd2 : d < 2 ^ 400) (hm : 1 ≤ many ∧ many ≤ 100) (hn : -110 ≤ n ∧ n ≤ 110) (hn1 : LT10 t d n) (hn2 : ¬ LT10 t d (n - 1)) {Ψ : Dat → Prop}
    (h : Ψ (.tuple [DS (rdF t d many n).1, .int (rdF t d many n).2])) : FSpec (k + 2) (Str.ofString "rounded") [.int t, .int d, .int many] Ψ := by
  refine FSpec.of_body (mem_rec (k := 41) rfl ⟨rfl, rfl, rfl⟩) (by walk_at "bind") (by decide +kernel) ?_
  change PS _ _ _ [(Str.ofString "many", .int many), (Str.ofString "bottom", .int d), (Str.ofString "top", .int t)] _ _
  have l19 : ∀ {x}, x < 2 ^ 400 → x < 2 ^ 1900 := fun h => Nat.lt_trans h (Nat.pow_lt_pow_right (by decide) (by decide))
  have x1 := ten_lt (x := ((many : Int) - n).toNat) (by walk_at "ar")
  have x2 := ten_lt (x := (n - (many : Int)).toNat) (by walk_at "ar")
  have x3 : 0 < 10 ^ (n - (many : Int)).toNat := Nat.pow_pos (by decide)
  have y1 := mul_pow_lt ht2 x1
  have y2 := mul_pow_lt hd2 x2
  have s1 : Sm (t * 10 ^ ((many : Int) - n).toNat) := Sm_le y1 (by decide)
  have s2 : Sm (d * 10 ^ (n - (many : Int)).toNat) := Sm_le y2 (by decide)
  have s3 : Sm (2 * (d * 10 ^ (n - (many : Int)).toNat)) := Sm_le (mul_pow_lt (show 2 < 2 ^ 2 by decide) y2) (by decide)
  have hr : rdN t d many n < 2 ^ 1500 := by
    unfold rdN huF
    refine Nat.lt_of_le_of_lt (Nat.div_le_self _ _) ?_
    have : 2 * (t * 10 ^ ((many : Int) - n).toNat) + d * 10 ^ (n - (many : Int)).toNat < 2 ^ 1402 := by
      rw [Nat.pow_succ, Nat.pow_succ]; walk_at "ar"
    exact Nat.lt_trans this (Nat.pow_lt_pow_right (by decide) (by decide))
  have hr1 : rdN t d many n < 2 ^ 1900 := Nat.lt_trans hr (Nat.pow_lt_pow_right (by decide) (by decide))
  have hr2 : rdN t d many n / 10 < 2 ^ 1900 := Nat.lt_of_le_of_lt (Nat.div_le_self _ _) hr1
  have s4 : Sm (rdN t d many n) := Sm_le hr (by decide)
  have st : Sm t := Sm_le ht2 (by decide)
  have sd : Sm d := Sm_le hd2 (by decide)
  have p1 : Sm (10 ^ ((many : Int) - n).toNat) := Sm_le x1 (by decide)
  have p2 : Sm (10 ^ (n - (many : Int)).toNat) := Sm_le x2 (by decide)
  have hpos := Nat.mul_pos hd x3
  repeat' walk_at "ps"
  refine decimal_place_spec t d n ht hd (l19 ht2) (l19 hd2) hn1 hn2 ?_
  clear l19 x1 x2 y1 y2 hr ht2 hd2 hn1 hn2 x3
  repeat' walk_at "st"
  refine Then.next ?_
  refine PS.seq ?_
  walk_at "as"
  repeat' walk_at "st"
  have esh : ((many - 1 : Nat) : Int) - (n - ((1 : Nat) : Int)) = (many : Int) - n := by walk_at "ar"
  rw [esh]
  refine Then.next ?_
  refine PS.seq ?_
  walk_at "as"
  unfold rdF at h
  refine PE.mono (Ψ := fun x => x = .int (rdN t d many n : Nat)) ?_ ?_
  · repeat' walk_at "st"
    unfold rdN
    by_cases hc : 0 ≤ (many : Int) - n
    · obtain ⟨x, hx⟩ := Int.eq_ofNat_of_zero_le hc
      have hxl : x ≤ 1000 := by walk_at "ar"
      have e0 : (n - (many : Int)).toNat = 0 := by walk_at "ar"
      rw [e0, Nat.pow_zero, Nat.mul_one] at s3 ⊢
      rw [hx] at p1 s1 ⊢
      have e1 : (x : Int).toNat = x := by walk_at "ar"
      rw [e1] at p1 s1 ⊢
      refine ite_dec (fun _ => ?_) fun hh => absurd (by walk_at "ar") hh
      repeat' walk_at "st"
      refine half_up_spec _ d hd s1 sd s3 ?_
      rfl
    · obtain ⟨x, hx⟩ := Int.eq_ofNat_of_zero_le (show 0 ≤ n - (many : Int) by walk_at "ar")
      have hxl : x ≤ 1000 := by walk_at "ar"
      have e0 : ((many : Int) - n).toNat = 0 := by walk_at "ar"
      have e2 : ((0 : Nat) : Int) - ((many : Int) - n) = x := by walk_at "ar"
      rw [e0, Nat.pow_zero, Nat.mul_one] at s1 ⊢
      rw [hx] at p2 s2 s3 hpos ⊢
      have e1 : (x : Int).toNat = x := by walk_at "ar"
      rw [e1] at p2 s2 s3 hpos ⊢
      refine ite_dec (fun hh => absurd hh hc) fun _ => ?_
      repeat' walk_at "st"
      rw [e2]
      repeat' walk_at "st"
      refine half_up_spec t _ hpos s1 s2 s3 ?_
      rfl
  rintro _ rfl
  have hm2 : many ≤ 1000 := by walk_at "ar"
  clear esh hn s1 s2 s3 p1 p2 hpos
  generalize rdN t d many n = r at *
  repeat' walk_at "pe"
  refine ite_dec (fun h1 => ?_) fun h1 => ?_
  · rw [if_pos h1] at h
    repeat' walk_at "pe"
    rw [show n - ((1 : Nat) : Int) + ((1 : Nat) : Int) = n by walk_at "ar"]
    exact h
  · rw [if_neg h1] at h
    repeat' walk_at "pe"
    exact h
section
variable {b s m : Nat} {e : Int} {N K : Nat} {n P : Int}
theorem LT10.scale {t d c : Nat} {n : Int} (hc : 0 < c) : LT10 (t * c) (d * c) n ↔ LT10 t d n := by
  unfold LT10
  rw [Nat.mul_right_comm, Nat.mul_right_comm d]
  exact ⟨fun h => Nat.lt_of_mul_lt_mul_right h, fun h => Nat.mul_lt_mul_of_pos_right h hc⟩
theorem scF_ratio (m : Nat) (e : Int) : ∃ f, 0 < f ∧ (scF m e).1 = m * 2 ^ e.toNat * f ∧ (scF m e).2.2.2 = 2 ^ (-e).toNat * f := by
  unfold scF
  refine ⟨if m = 2 ^ 52 ∧ -1074 < e then 4 else 2, by split <;> decide, ?_, ?_⟩
  · simp only; rw [Nat.mul_right_comm]
  · simp only; rw [Nat.mul_comm]
theorem Fl.lt1' (F : Fl b s m e N K n P) : LT10 (m * 2 ^ e.toNat) (2 ^ (-e).toNat) n := by
  obtain ⟨f, hf, h1, h2⟩ := scF_ratio m e
  have := F.lt1
  rw [h1, h2, LT10.scale hf] at this; exact this
theorem Fl.lt2' (F : Fl b s m e N K n P) : ¬ LT10 (m * 2 ^ e.toNat) (2 ^ (-e).toNat) (n - 1) := by
  obtain ⟨f, hf, h1, h2⟩ := scF_ratio m e
  have := F.lt2
  rw [h1, h2, LT10.scale hf] at this; exact this
theorem Fl.sgn (F : Fl b s m e N K n P) : sgF s m = minusF s := by
  have := F.m0
  unfold sgF minusF
  by_cases h : s = 1
  · rw [if_pos ⟨h, by walk_at "ar"⟩, if_pos h]
  · rw [if_neg (fun hh => h hh.1), if_neg h]
theorem Fl.sizes (F : Fl b s m e N K n P) : m * 2 ^ e.toNat < 2 ^ 400 ∧ 2 ^ (-e).toNat < 2 ^ 400 ∧ 0 < m * 2 ^ e.toNat ∧ 0 < 2 ^ (-e).toNat := by
  have he := F.e1
  have p1 : 2 ^ e.toNat < 2 ^ 301 := Nat.pow_lt_pow_right (by decide) (by walk_at "ar")
  have p2 : 2 ^ (-e).toNat < 2 ^ 301 := Nat.pow_lt_pow_right (by decide) (by walk_at "ar")
  exact ⟨Nat.lt_trans (mul_pow_lt F.m1 p1) (Nat.pow_lt_pow_right (by decide) (by decide)), Nat.lt_trans p2 (Nat.pow_lt_pow_right (by decide) (by decide)), Nat.mul_pos F.m0 (Nat.two_pow_pos _), Nat.two_pow_pos _⟩

theorem rdF_len {t d many : Nat} {n : Int} (h : rdN t d many n < 2 ^ 1900) : (rdF t d many n).1.length ≤ 1000 := by
  unfold rdF; split
  · exact dg_short (Nat.lt_of_le_of_lt (Nat.div_le_self _ _) h)
  · exact dg_short h
theorem rdF_exp {t d many : Nat} {n : Int} (hn : -110 ≤ n ∧ n ≤ 110) : -200 ≤ (rdF t d many n).2 ∧ (rdF t d many n).2 ≤ 200 := by
  unfold rdF; split <;> simp only <;> walk_at "ar"
theorem rdN_lt {t d many : Nat} {n : Int} (ht2 : t < 2 ^ 400) (hd2 : d < 2 ^ 400) (hm : many ≤ 100) (hn : -110 ≤ n ∧ n ≤ 110) : rdN t d many n < 2 ^ 1900 := by
  have x1 := ten_lt (x := ((many : Int) - n).toNat) (by walk_at "ar")
  have x2 := ten_lt (x := (n - (many : Int)).toNat) (by walk_at "ar")
  have y1 := mul_pow_lt ht2 x1
  have y2 := mul_pow_lt hd2 x2
  unfold rdN huF
  refine Nat.lt_of_le_of_lt (Nat.div_le_self _ _) ?_
  have : 2 * (t * 10 ^ ((many : Int) - n).toNat) + d * 10 ^ (n - (many : Int)).toNat < 2 ^ 1402 := by
    rw [Nat.pow_succ, Nat.pow_succ]; walk_at "ar"
  exact Nat.lt_trans this (Nat.pow_lt_pow_right (by decide) (by decide))
theorem small1000 {x : Int} (h : -1000 ≤ x ∧ x ≤ 1000) : x.natAbs < 2 ^ 1000 := Nat.lt_of_le_of_lt (show x.natAbs ≤ 1000 by walk_at "ar") (Nat.lt_of_lt_of_le (show 1000 < 2 ^ 10 by decide) (Nat.pow_le_pow_right (by decide) (by decide)))
theorem weF_len {f : List Nat} {e : Int} (hf : f.length ≤ 1000) (he : e.natAbs < 2 ^ 1000) : (weF f e).length ≤ 3000 := by
  have := seF_len he
  unfold weF
  simp only [List.length_append, List.length_take]
  split
  · simp only [List.length_append, List.length_drop, List.length_cons, List.length_nil]; walk_at "ar"
  · simp only [List.length_nil]; walk_at "ar"

theorem to_exponential_spec {j : Nat} (many : Nat) (hm : many ≤ 50) (F : Fl b s m e N K n P) {Ψ : Dat → Prop}
    (h : Ψ (DS (minusF s ++ weF (rdF (m * 2 ^ e.toNat) (2 ^ (-e).toNat) (many + 1) n).1 (rdF (m * 2 ^ e.toNat) (2 ^ (-e).toNat) (many + 1) n).2))) : FSpec (j + 4) (Str.ofString "to_exponential") [.int b, .int many] Ψ := by
  refine FSpec.of_body (mem_rec (k := 42) rfl ⟨rfl, rfl, rfl⟩) (by walk_at "bind") (by decide +kernel) ?_
  change PS _ _ _ [(Str.ofString "many", .int many), (Str.ofString "bits", .int b)] _ _
  have hn := F.n1
  repeat' walk_at "ps"
  refine without_figures_spec b ?_
  rw [F.wo]
  simp only [optD]
  repeat' walk_at "pe"
  refine sign_and_ratio_spec b s m e F.parts (by have := F.e1; walk_at "ar") ?_
  rw [F.sgn]
  obtain ⟨z1, z2, z3, z4⟩ := F.sizes
  have l1 := F.lt1'
  have l2 := F.lt2'
  have hml : (minusF s).length ≤ 1 := by unfold minusF; split <;> decide
  clear F
  generalize m * 2 ^ e.toNat = t at *
  generalize 2 ^ (-e).toNat = d at *
  repeat' walk_at "pe"
  refine ite_eqN (fun hh => absurd hh (by walk_at "ar")) fun _ => ?_
  repeat' walk_at "pe"
  refine rounded_spec t d (many + 1) n z3 z4 z1 z2 (by walk_at "ar") (by walk_at "ar") l1 l2 ?_
  have r1 := rdN_lt (many := many + 1) z1 z2 (by walk_at "ar") (show -110 ≤ n ∧ n ≤ 110 by walk_at "ar")
  have r2 := rdF_len r1
  have r3 := rdF_exp (t := t) (d := d) (many := many + 1) (show -110 ≤ n ∧ n ≤ 110 by walk_at "ar")
  have r4 := small1000 (x := (rdF t d (many + 1) n).2) (by walk_at "ar")
  have r5 := weF_len r2 r4
  repeat' walk_at "pe"
  refine with_exponent_spec _ _ r2 r4 ?_
  clear z1 z2 r1 r4
  repeat' walk_at "pe"
  exact h
theorem to_exponential_none {j : Nat} (F : Fl b s m e N K n P) {Ψ : Dat → Prop}
    (h : Ψ (DS (minusF s ++ weF (dg N) (P - 1)))) : FSpec (j + 4) (Str.ofString "to_exponential") [.int b, .none] Ψ := by
  refine FSpec.of_body (mem_rec (k := 42) rfl ⟨rfl, rfl, rfl⟩) (by walk_at "bind") (by decide +kernel) ?_
  change PS _ _ _ [(Str.ofString "many", .none), (Str.ofString "bits", .int b)] _ _
  repeat' walk_at "ps"
  refine without_figures_spec b ?_
  rw [F.wo]
  simp only [optD]
  repeat' walk_at "pe"
  refine sign_and_ratio_spec b s m e F.parts (by have := F.e1; walk_at "ar") ?_
  rw [F.sgn]
  obtain ⟨z1, z2, z3, z4⟩ := F.sizes
  have hml : (minusF s).length ≤ 1 := by unfold minusF; split <;> decide
  have hl := F.len
  have hk := F.k
  have hp := F.pb
  have r4 := small1000 (x := P - 1) (by walk_at "ar")
  have r5 := weF_len (f := dg N) (by walk_at "ar") r4
  have e1 : P - ((1 : Nat) : Int) = P - 1 := rfl
  generalize m * 2 ^ e.toNat = t at *
  generalize 2 ^ (-e).toNat = d at *
  repeat' walk_at "pe"
  refine ite_eqN (fun hh => absurd hh (by walk_at "ar")) fun _ => ?_
  repeat' walk_at "pe"
  refine shortestF F ?_
  repeat' walk_at "pe"
  rw [e1]
  refine with_exponent_spec (dg N) (P - 1) (by walk_at "ar") r4 ?_
  clear z1 z2 r4
  repeat' walk_at "pe"
  exact h

noncomputable def tpF (f : List Nat) (x : Int) (many : Nat) : List Nat :=
  if x < -6 ∨ many ≤ x then weF f x
  else if x = (many : Int) - 1 then f
  else if 0 ≤ x then f.take (x + 1).toNat ++ [46] ++ f.drop (x + 1).toNat
  else [48, 46] ++ zs (-x - 1).toNat ++ f
theorem tpF_walk {sc : Scope} : True := trivial
theorem to_precision_spec {j : Nat} (many : Nat) (hm : 1 ≤ many ∧ many ≤ 50) (F : Fl b s m e N K n P) {Ψ : Dat → Prop}
    (h : Ψ (DS (minusF s ++ tpF (rdF (m * 2 ^ e.toNat) (2 ^ (-e).toNat) many n).1 (rdF (m * 2 ^ e.toNat) (2 ^ (-e).toNat) many n).2 many))) : FSpec (j + 4) (Str.ofString "to_precision") [.int b, .int many] Ψ := by
  refine FSpec.of_body (mem_rec (k := 43) rfl ⟨rfl, rfl, rfl⟩) (by walk_at "bind") (by decide +kernel) ?_
  change PS _ _ _ [(Str.ofString "many", .int many), (Str.ofString "bits", .int b)] _ _
  have hn := F.n1
  have e0 : lt "0" = [48] := by decide +kernel
  have ep : lt "." = [46] := by decide +kernel
  have e0p : lt "0." = [48, 46] := by decide +kernel
  repeat' walk_at "ps"
  refine without_figures_spec b ?_
  rw [F.wo]
  simp only [optD]
  repeat' walk_at "pe"
  refine sign_and_ratio_spec b s m e F.parts (by have := F.e1; walk_at "ar") ?_
  rw [F.sgn]
  obtain ⟨z1, z2, z3, z4⟩ := F.sizes
  have l1 := F.lt1'
  have l2 := F.lt2'
  have hml : (minusF s).length ≤ 1 := by unfold minusF; split <;> decide
  clear F
  generalize m * 2 ^ e.toNat = t at *
  generalize 2 ^ (-e).toNat = d at *
  repeat' walk_at "pe"
  refine ite_dec (fun _ => ?_) fun hh => absurd z3 hh
  repeat' walk_at "pe"
  refine rounded_spec t d many n z3 z4 z1 z2 (by walk_at "ar") (by walk_at "ar") l1 l2 ?_
  have r1 := rdN_lt (many := many) z1 z2 (by walk_at "ar") (show -110 ≤ n ∧ n ≤ 110 by walk_at "ar")
  have r2 := rdF_len r1
  have r3 := rdF_exp (t := t) (d := d) (many := many) (show -110 ≤ n ∧ n ≤ 110 by walk_at "ar")
  clear z1 z2 r1 l1 l2
  generalize rdF t d many n = q at *
  obtain ⟨f, x⟩ := q
  simp only at h r2 r3 ⊢
  have r4 := small1000 (x := x) (by walk_at "ar")
  have r5 := weF_len r2 r4
  have hm2 : many ≤ 1000 := by walk_at "ar"
  unfold tpF at h
  repeat' walk_at "ps"
  refine PS.seq ?_
  refine PS1.ite (PT.mono (Ψ := fun z => z = decide (x < -6 ∨ many ≤ x)) ?_ ?_)
  · repeat' first | walk_at "pe" | refine ite_dec (fun _ => ?_) fun _ => ?_
    all_goals first | (symm; apply decide_eq_true; walk_at "ar") | (symm; apply decide_eq_false; walk_at "ar")
  rintro _ rfl
  refine ite_dec (fun h1 => ?_) fun h1 => ?_
  · rw [if_pos h1] at h
    repeat' walk_at "st"
    refine PS.seq ?_
    repeat' walk_at "st"
    refine with_exponent_spec f x r2 r4 ?_
    clear r4
    repeat' walk_at "pe"
    exact h
  rw [if_neg h1] at h
  clear r4
  refine PS.nil ?_
  refine Then.next ?_
  refine PS.seq ?_
  refine PS1.ite (PT.mono (Ψ := fun z => z = decide (x = (many : Int) - 1)) ?_ ?_)
  · repeat' walk_at "pe"
    rw [show (((many - 1 : Nat) : Int)) = (many : Int) - 1 by walk_at "ar"]
    by_cases hh : x = (many : Int) - 1
    · rw [decide_eq_true hh]; exact beq_iff_eq.mpr hh
    · rw [decide_eq_false hh]; exact beq_eq_false_iff_ne.mpr hh
  rintro _ rfl
  refine ite_dec (fun h2 => ?_) fun h2 => ?_
  · rw [if_pos h2] at h
    repeat' walk_at "pe"
    exact h
  rw [if_neg h2] at h
  refine PS.nil ?_
  refine Then.next ?_
  refine PS.seq ?_
  refine PS1.ite (PT.mono (Ψ := fun z => z = decide (0 ≤ x)) ?_ ?_)
  · repeat' walk_at "pe"
    exact decide_eq_decide.mpr (by walk_at "ar")
  rintro _ rfl
  refine ite_dec (fun h3 => ?_) fun h3 => ?_
  · rw [if_pos h3] at h
    obtain ⟨y, rfl⟩ := Int.eq_ofNat_of_zero_le h3
    have h : Ψ (DS (minusF s ++ (f.take (y + 1) ++ [46] ++ f.drop (y + 1)))) := h
    have v1 : (minusF s).length + (f.take (y + 1)).length ≤ 16777216 := by rw [List.length_take]; exact one_cut (by walk_at "ar")
    have v2 : (minusF s ++ f.take (y + 1)).length + ([46] : List Nat).length ≤ 16777216 := by rw [List.length_append, List.length_take]; exact a_with_one (by walk_at "ar")
    have v3 : (minusF s ++ f.take (y + 1) ++ [46]).length + (f.drop (y + 1)).length ≤ 16777216 := by
      simp only [List.length_append, List.length_take, List.length_drop, List.length_cons, List.length_nil]; exact two_cuts (by walk_at "ar")
    rw [← List.append_assoc, ← List.append_assoc] at h
    repeat' first | walk_at "pe" | rw [ep]
    exact h
  rw [if_neg h3] at h
  have hz : (zs (-x - 1).toNat).length ≤ 1000 := by unfold zs; rw [List.length_replicate]; walk_at "ar"
  have e1 : ((0 : Nat) : Int) - x - ((1 : Nat) : Int) = -x - 1 := by walk_at "ar"
  rw [← List.append_assoc, ← List.append_assoc] at h
  repeat' first | walk_at "pe" | rw [e0p]
  rw [e0, e1]
  refine PBin.zeros (by walk_at "ar") (by walk_at "ar") ?_
  repeat' walk_at "pe"
  exact h
end
/-- a decimal of the law: K figures, the last none 0, their place P -/
structure Dec (N K : Nat) (P : Int) : Prop where
  k1 : 1 ≤ K
  k2 : K ≤ 15
  n0 : N % 10 ≠ 0
  n1 : 10 ^ (K - 1) ≤ N
  n2 : N < 10 ^ K
  p1 : -30 ≤ P
  p2 : P ≤ 30
noncomputable def tD (N K : Nat) (P : Int) : Nat := N * 10 ^ (P - K).toNat
noncomputable def dD (K : Nat) (P : Int) : Nat := 10 ^ ((K : Int) - P).toNat
section
variable {N K : Nat} {P : Int}
theorem Dec.pos (D : Dec N K P) : 0 < N := Nat.lt_of_lt_of_le (Nat.pow_pos (by decide)) D.n1
theorem Dec.len (D : Dec N K P) : (dg N).length = K := by
  have := D.k1
  have := dg_len (k := K - 1) D.n1 (by rw [show K - 1 + 1 = K by walk_at "ar"]; exact D.n2)
  walk_at "ar"
theorem Dec.tpos (D : Dec N K P) : 0 < tD N K P := Nat.mul_pos D.pos (Nat.pow_pos (by decide))
theorem dpos (K : Nat) (P : Int) : 0 < dD K P := Nat.pow_pos (by decide)
theorem Dec.first (D : Dec N K P) : ∃ c l, dg N = c :: l ∧ 49 ≤ c ∧ c ≤ 57 := by
  have h1 := dg_getD D.n1 D.n2 D.k1 0 D.k1
  have h2 := D.len
  cases h : dg N with
  | nil => rw [h] at h2; have := D.k1; simp at h2; walk_at "ar"
  | cons c l =>
    refine ⟨c, l, rfl, ?_, ?_⟩
    · rw [h] at h1
      simp only [List.getD_cons_zero] at h1
      have h3 : 1 ≤ N / 10 ^ (K - 1) := (Nat.le_div_iff_mul_le (Nat.pow_pos (by decide))).mpr (by rw [Nat.one_mul]; exact D.n1)
      have h4 : N / 10 ^ (K - 1) < 10 := by
        refine Nat.div_lt_of_lt_mul ?_
        rw [← Nat.pow_succ, show (K - 1).succ = K by have := D.k1; walk_at "ar"]; exact D.n2
      rw [Nat.zero_add, Nat.mod_eq_of_lt h4] at h1; walk_at "ar"
    · exact (dg_fig N c (by rw [h]; exact .head _)).2
theorem Dec.lstr (D : Dec N K P) : Mine.lstr (dg N) [48] = dg N := by
  obtain ⟨c, l, h, h1, h2⟩ := D.first
  rw [h]
  unfold Mine.lstr
  rw [List.dropWhile_cons, if_neg]
  simp; walk_at "ar"
theorem Dec.fd (D : Dec N K P) : fdF (dg N) (P - K) = rrF 0 (tD N K P) (dD K P) := by
  have h1 := D.p1; have h2 := D.p2; have h3 := D.len; have h4 := D.k1; have h5 := D.k2
  unfold fdF tD dD
  rw [D.lstr, foldF_dg, h3]
  have hne : dg N ≠ [] := by intro h; rw [h] at h3; simp at h3; walk_at "ar"
  rw [if_neg (fun hh => hh.elim hne (by walk_at "ar")), if_neg (by walk_at "ar")]
  split
  · rw [show ((K : Int) - P).toNat = 0 by walk_at "ar", Nat.pow_zero]
  · rw [show (P - (K : Int)).toNat = 0 by walk_at "ar", Nat.pow_zero, Nat.mul_one, show (-(P - (K : Int))).toNat = ((K : Int) - P).toNat by walk_at "ar"]
theorem Dec.bls (D : Dec N K P) : -255 ≤ (bl (tD N K P) : Int) - bl (dD K P) - 53 ∧ (bl (tD N K P) : Int) - bl (dD K P) - 53 ≤ 150 := by
  have h1 := D.p1; have h2 := D.p2; have h4 := D.k1; have h5 := D.k2
  have a1 : tD N K P < 2 ^ 200 := by
    have : N < 10 ^ 15 := Nat.lt_of_lt_of_le D.n2 (Nat.pow_le_pow_right (by decide) h5)
    have e1 : N < 2 ^ 50 := Nat.lt_of_lt_of_le this (by decide)
    have e2 : 10 ^ (P - (K : Int)).toNat < 2 ^ 150 := Nat.lt_of_le_of_lt (Nat.pow_le_pow_right (by decide) (show (P - (K : Int)).toNat ≤ 45 by walk_at "ar")) (by decide)
    exact mul_pow_lt e1 e2
  have a2 : dD K P < 2 ^ 200 := Nat.lt_of_le_of_lt (Nat.pow_le_pow_right (by decide) (show ((K : Int) - P).toNat ≤ 45 by walk_at "ar")) (by decide)
  have b1 := bl_le_of_lt a1
  have b2 := bl_le_of_lt a2
  have c1 : 0 < bl (tD N K P) := by have := D.tpos; unfold bl; rw [if_neg (by walk_at "ar")]; walk_at "ar"
  have c2 : 0 < bl (dD K P) := by have := dpos K P; unfold bl; rw [if_neg (by walk_at "ar")]; walk_at "ar"
  walk_at "ar"

/-- the double of a decimal -/
structure Dbl (b : Nat) (N K : Nat) (P : Int) (m : Nat) (e : Int) : Prop where
  dec : Dec N K P
  parts : partsF b = (0, m, e)
  lt : b < INFN
  nz : b ≠ 0
  near : Near (tD N K P) (dD K P) m e
  e1 : -300 ≤ e
  e2 : e ≤ 300
theorem Dec.dbl (D : Dec N K P) : ∃ m e, Dbl (fdF (dg N) (P - K)) N K P m e := by
  have h := D.bls
  obtain ⟨m, e, h1, h2, h3, h4, h5, h6⟩ := rr_near D.tpos (dpos K P) (by walk_at "ar") (by walk_at "ar")
  rw [D.fd]
  exact ⟨m, e, D, h1, h2, h3, h4, by walk_at "ar", by walk_at "ar"⟩
end

section
variable {b N K m : Nat} {P e : Int}
/-- T by D is the decimal by two to the power of e -/
noncomputable def tT (N K : Nat) (P e : Int) : Nat := tD N K P * 2 ^ (-e).toNat
noncomputable def dT (K : Nat) (P e : Int) : Nat := dD K P * 2 ^ e.toNat
theorem dTpos (K : Nat) (P e : Int) : 0 < dT K P e := Nat.mul_pos (dpos K P) (Nat.two_pow_pos _)
/-- a figure more than the decimal has is far above the gap -/
theorem Dbl.fine (B : Dbl b N K P m e) : 2 * (dT K P e * 10 ^ 15) < tT N K P e ∧ 2 ^ 53 * dT K P e ≤ 2 * tT N K P e + dT K P e := by
  have h1 := B.near.lo
  have h2 : 2 ^ 52 * (dD K P * 2 ^ e.toNat) ≤ m * (dD K P * 2 ^ e.toNat) := Nat.mul_le_mul_right _ B.near.m0
  have h3 := dTpos K P e
  unfold tT dT at *
  generalize tD N K P * 2 ^ (-e).toNat = T at *
  generalize dD K P * 2 ^ e.toNat = D at *
  walk_at "ar"
/-- the powers of ten that the two sides share -/
theorem share (K : Nat) (P : Int) : ∃ c, 0 < c ∧ 10 ^ K * 10 ^ (-P).toNat = dD K P * c ∧ ∀ N, N * 10 ^ P.toNat = tD N K P * c := by
  obtain ⟨c, h1, h2⟩ := ar_sh P K
  refine ⟨10 ^ c, Nat.pow_pos (by decide), ?_, fun N => ?_⟩
  · unfold dD; rw [← Nat.pow_add, ← Nat.pow_add, h2]
  · unfold tD; rw [Nat.mul_assoc, ← Nat.pow_add, ← h1]

noncomputable def fE (m : Nat) (e : Int) : Nat := if m = 2 ^ 52 ∧ -1074 < e then 2 else 1
theorem scF_eq (m : Nat) (e : Int) : scF m e = (m * (2 * fE m e) * 2 ^ e.toNat, fE m e * 2 ^ e.toNat, 2 ^ e.toNat, 2 * fE m e * 2 ^ (-e).toNat) := by
  unfold scF fE
  by_cases h : m = 2 ^ 52 ∧ -1074 < e
  · simp only [if_pos h]
  · simp only [if_neg h, Nat.mul_one]

theorem Dbl.gen (B : Dbl b N K P m e) : Gen ((scF m e).1 * 10 ^ (-P).toNat) ((scF m e).2.1 * 10 ^ (-P).toNat) ((scF m e).2.2.1 * 10 ^ (-P).toNat) ((scF m e).2.2.2 * 10 ^ P.toNat) (m % 2 == 0) N K := by
  obtain ⟨c, hc, hs, ht⟩ := share K P
  have ht := ht N
  have nr := B.near
  have hD := dTpos K P e
  obtain ⟨f1, f2⟩ := B.fine
  have hN : N < 10 ^ 15 := Nat.lt_of_lt_of_le B.dec.n2 (Nat.pow_le_pow_right (by decide) B.dec.k2)
  have hf : fE m e = 1 ∨ (fE m e = 2 ∧ m = 2 ^ 52) := by unfold fE; split <;> simp [*]
  -- what the sides are
  have a1 : ∀ z : Nat, 10 ^ K * (z * 2 ^ e.toNat * 10 ^ (-P).toNat) = z * dT K P e * c := by
    intro z
    have : 10 ^ K * (z * 2 ^ e.toNat * 10 ^ (-P).toNat) = z * (10 ^ K * 10 ^ (-P).toNat) * 2 ^ e.toNat := by
      simp only [Nat.mul_comm, Nat.mul_left_comm, Nat.mul_assoc]
    rw [this, hs]; unfold dT; simp only [Nat.mul_comm, Nat.mul_left_comm, Nat.mul_assoc]
  have a2 : ∀ z : Nat, N * (z * 2 ^ (-e).toNat * 10 ^ P.toNat) = z * tT N K P e * c := by
    intro z
    have : N * (z * 2 ^ (-e).toNat * 10 ^ P.toNat) = z * (N * 10 ^ P.toNat) * 2 ^ (-e).toNat := by
      simp only [Nat.mul_comm, Nat.mul_left_comm, Nat.mul_assoc]
    rw [this, ht]; unfold tT; simp only [Nat.mul_comm, Nat.mul_left_comm, Nat.mul_assoc]
  rw [scF_eq]
  simp only
  have n1 := nr.lo; have n2 := nr.hi; have n3 := nr.lo'; have n4 := nr.hi'; have n5 := nr.edge
  have eT : tD N K P * 2 ^ (-e).toNat = tT N K P e := rfl
  have eD : dD K P * 2 ^ e.toNat = dT K P e := rfl
  rw [eT, eD] at n1 n2 n3 n4 n5
  have low : m * (2 * fE m e) * dT K P e ≤ 2 * fE m e * tT N K P e + 1 * dT K P e ∧ ((m % 2 == 0) = false → m * (2 * fE m e) * dT K P e < 2 * fE m e * tT N K P e + 1 * dT K P e) := by
    rcases hf with hf | ⟨hf, hm⟩ <;> rw [hf]
    · have : m * (2 * 1) * dT K P e = 2 * (m * dT K P e) := by rw [Nat.mul_one, Nat.mul_right_comm, Nat.mul_comm]
      rw [this]
      refine ⟨by walk_at "ar", fun h => ?_⟩
      have := n3 (by have h := beq_eq_false_iff_ne.mp h; walk_at "ar"); walk_at "ar"
    · have n5 := n5 hm
      have : m * (2 * 2) * dT K P e = 4 * (m * dT K P e) := by rw [Nat.mul_right_comm, Nat.mul_comm]
      rw [this]
      refine ⟨by walk_at "ar", fun h => ?_⟩
      rw [hm] at h; exact absurd h (by decide)
  have high : 2 * fE m e * tT N K P e ≤ m * (2 * fE m e) * dT K P e + fE m e * dT K P e ∧ ((m % 2 == 0) = false → 2 * fE m e * tT N K P e < m * (2 * fE m e) * dT K P e + fE m e * dT K P e) := by
    have hf0 : 0 < fE m e := by rcases hf with hf | ⟨hf, _⟩ <;> rw [hf] <;> decide
    have e1 : 2 * fE m e * tT N K P e = fE m e * (2 * tT N K P e) := by rw [Nat.mul_comm 2, Nat.mul_assoc]
    have e2 : m * (2 * fE m e) * dT K P e + fE m e * dT K P e = fE m e * (2 * (m * dT K P e) + dT K P e) := by
      rw [Nat.mul_add]; simp only [Nat.mul_comm, Nat.mul_left_comm, Nat.mul_assoc]
    rw [e1, e2]
    refine ⟨Nat.mul_le_mul_left _ n2, fun h => ?_⟩
    exact Nat.mul_lt_mul_of_pos_left (n4 (by have h := beq_eq_false_iff_ne.mp h; walk_at "ar")) hf0
  have hle : ∀ {x y z : Nat}, x ≤ y + z → x * c ≤ y * c + z * c := fun h => by rw [← Nat.add_mul]; exact Nat.mul_le_mul_right _ h
  have hlt : ∀ {x y z : Nat}, x < y + z → x * c < y * c + z * c := fun h => by rw [← Nat.add_mul]; exact Nat.mul_lt_mul_of_pos_right h hc
  refine ⟨?_, ?_, ?_, ?_, ?_, ?_, B.dec.n0, B.dec.n1, B.dec.n2, B.dec.k1⟩
  · rw [a1, a2, ← Nat.one_mul (2 ^ e.toNat), a1]; exact hle low.1
  · intro h; rw [a1, a2, ← Nat.one_mul (2 ^ e.toNat), a1]; exact hlt (low.2 h)
  · rw [Nat.mul_add, a1, a2, a1]; exact hle high.1
  · intro h; rw [Nat.mul_add, a1, a2, a1]; exact hlt (high.2 h)
  · have hNpos := B.dec.pos
    refine Nat.lt_of_mul_lt_mul_left (a := N) ?_
    rw [a2, a1]
    have e1 : N * (4 * (fE m e * dT K P e * c)) = 2 * fE m e * (2 * (dT K P e * N)) * c := by simp only [Nat.mul_comm, Nat.mul_left_comm, Nat.mul_assoc, show (4 : Nat) = 2 * 2 from rfl]
    rw [e1]
    have hf0 : 0 < 2 * fE m e := by rcases hf with hf | ⟨hf, _⟩ <;> rw [hf] <;> decide
    have : dT K P e * N ≤ dT K P e * 10 ^ 15 := Nat.mul_le_mul_left _ (Nat.le_of_lt hN)
    exact Nat.mul_lt_mul_of_pos_right (Nat.mul_lt_mul_of_pos_left (by walk_at "ar") hf0) hc
  · refine Nat.mul_le_mul_right _ ?_
    exact Nat.le_mul_of_pos_left _ (by rcases hf with hf | ⟨hf, _⟩ <;> rw [hf] <;> decide)
end
theorem shift10 (P : Int) (j : Nat) : ∃ c, 0 < c ∧ 10 ^ (-(P - j)).toNat * c = 10 ^ (-P).toNat * 10 ^ j ∧ 10 ^ (P - j).toNat * c = 10 ^ P.toNat := by
  obtain ⟨c, h1, h2⟩ := ar_sh P j
  refine ⟨10 ^ c, Nat.pow_pos (by decide), ?_, ?_⟩
  · rw [← Nat.pow_add, ← Nat.pow_add, Int.neg_sub, ← h2, Nat.add_comm]
  · rw [← Nat.pow_add, ← h1]
theorem LT10.at {t b : Nat} {P : Int} (j : Nat) : LT10 t b (P - j) ↔ t * 10 ^ (-P).toNat * 10 ^ j < b * 10 ^ P.toNat := by
  obtain ⟨c, hc, h1, h2⟩ := shift10 P j
  unfold LT10
  rw [Nat.mul_assoc, ← h1, ← h2, ← Nat.mul_assoc, ← Nat.mul_assoc]
  exact ⟨fun h => Nat.mul_lt_mul_of_pos_right h hc, fun h => Nat.lt_of_mul_lt_mul_right h⟩
section
variable {num abv blw unit N K : Nat} {ev : Bool} {P : Int}
theorem Gen.place (g : Gen (num * 10 ^ (-P).toNat) (abv * 10 ^ (-P).toNat) blw (unit * 10 ^ P.toNat) ev N K) :
    ∃ n, (n = P ∨ n = P - 1) ∧ fpF num abv unit ev n = P ∧ LT10 num unit n ∧ ¬ LT10 num unit (n - 1) ∧ (n = P - 1 → LT10 num unit (P - 1)) := by
  have hs := g.start.lt
  have h0 : LT10 num unit P := by unfold LT10; exact hs
  have hlo := g.lo; have hhi := g.hi; have hsm := g.sm; have hn1 := g.n1; have hn2 := g.n2; have hk1 := g.k1
  have hba : 10 ^ K * blw ≤ 10 ^ K * (abv * 10 ^ (-P).toNat) := Nat.mul_le_mul_left _ g.ba
  obtain ⟨k, rfl⟩ : ∃ k, K = k + 1 := ⟨K - 1, by walk_at "ar"⟩
  simp only [Nat.add_sub_cancel] at hn1
  have hU : 0 < unit * 10 ^ P.toNat := by walk_at "ar"
  have e10 : (10 : Nat) ^ (k + 1) = 10 ^ k * 10 := Nat.pow_succ _ _
  have hNU : 10 ^ k * (unit * 10 ^ P.toNat) ≤ N * (unit * 10 ^ P.toNat) := Nat.mul_le_mul_right _ hn1
  have hNU2 : N * (unit * 10 ^ P.toNat) + unit * 10 ^ P.toNat ≤ 10 ^ (k + 1) * (unit * 10 ^ P.toNat) := by
    rw [← Nat.succ_mul]; exact Nat.mul_le_mul_right _ hn2
  have hadd : (num + abv) * 10 ^ (-P).toNat = num * 10 ^ (-P).toNat + abv * 10 ^ (-P).toNat := Nat.add_mul _ _ _
  by_cases hb : LT10 num unit (P - 1)
  · refine ⟨P - 1, .inr rfl, ?_, hb, ?_, fun _ => hb⟩
    · unfold fpF
      rw [if_pos]
      · walk_at "ar"
      · obtain ⟨c, hc, h1, h2⟩ := shift10 P 1
        rw [Nat.pow_one] at h1
        have l1 : unit * 10 ^ (P - 1).toNat * c = unit * 10 ^ P.toNat := by rw [Nat.mul_assoc]; rw [← h2]; rfl
        have l2 : (num + abv) * 10 ^ (-(P - 1)).toNat * c = (num + abv) * 10 ^ (-P).toNat * 10 := by rw [Nat.mul_assoc, Nat.mul_assoc, ← h1]; rfl
        have key : unit * 10 ^ P.toNat ≤ (num + abv) * 10 ^ (-P).toNat * 10 := by
          rw [hadd]
          have : 10 ^ k * (unit * 10 ^ P.toNat) ≤ 10 ^ k * ((num * 10 ^ (-P).toNat + abv * 10 ^ (-P).toNat) * 10) := by
            have e : 10 ^ k * ((num * 10 ^ (-P).toNat + abv * 10 ^ (-P).toNat) * 10) = 10 ^ (k + 1) * (num * 10 ^ (-P).toNat + abv * 10 ^ (-P).toNat) := by
              rw [e10]; simp only [Nat.mul_comm, Nat.mul_left_comm, Nat.mul_assoc]
            rw [e]; walk_at "ar"
          exact Nat.le_of_mul_le_mul_left this (Nat.pow_pos (by decide))
        have key' : ev = false → unit * 10 ^ P.toNat < (num + abv) * 10 ^ (-P).toNat * 10 := by
          intro hev
          have := g.hi' hev
          rw [hadd]
          have : 10 ^ k * (unit * 10 ^ P.toNat) < 10 ^ k * ((num * 10 ^ (-P).toNat + abv * 10 ^ (-P).toNat) * 10) := by
            have e : 10 ^ k * ((num * 10 ^ (-P).toNat + abv * 10 ^ (-P).toNat) * 10) = 10 ^ (k + 1) * (num * 10 ^ (-P).toNat + abv * 10 ^ (-P).toNat) := by
              rw [e10]; simp only [Nat.mul_comm, Nat.mul_left_comm, Nat.mul_assoc]
            rw [e]; walk_at "ar"
          exact Nat.lt_of_mul_lt_mul_left this
        rw [← l1, ← l2] at key key'
        have key := Nat.le_of_mul_le_mul_right key hc
        cases ev with
        | false => exact .inl (Nat.lt_of_mul_lt_mul_right (key' rfl))
        | true =>
          by_cases h : unit * 10 ^ (P - 1).toNat < (num + abv) * 10 ^ (-(P - 1)).toNat
          · exact .inl h
          · exact .inr ⟨rfl, by walk_at "ar"⟩
    · rw [show P - 1 - 1 = P - ((2 : Nat) : Int) by walk_at "ar", LT10.at]
      intro hh
      generalize unit * 10 ^ P.toNat = U at *
      generalize num * 10 ^ (-P).toNat = X at *
      generalize abv * 10 ^ (-P).toNat = A at *
      have q1 : 10 ^ k * (X * 10 ^ 2) < 10 ^ k * U := Nat.mul_lt_mul_of_pos_left hh (Nat.pow_pos (by decide))
      have q2 : 10 ^ k * (X * 10 ^ 2) = 10 ^ (k + 1) * X * 10 := by rw [e10]; simp only [Nat.mul_assoc, Nat.mul_comm, Nat.mul_left_comm, show (10 : Nat) ^ 2 = 10 * 10 from rfl]
      rw [Nat.mul_add] at hhi
      have q3 : 1 * U ≤ 10 ^ k * U := Nat.mul_le_mul_right _ (Nat.pow_pos (by decide))
      walk_at "ar"
  · refine ⟨P, .inl rfl, ?_, h0, hb, fun h => by walk_at "ar"⟩
    unfold fpF
    rw [if_neg]
    rw [hadd]
    have : num * 10 ^ (-P).toNat + abv * 10 ^ (-P).toNat < unit * 10 ^ P.toNat := by
      generalize unit * 10 ^ P.toNat = U at *
      generalize num * 10 ^ (-P).toNat = X at *
      generalize abv * 10 ^ (-P).toNat = A at *
      have : 10 ^ (k + 1) * (X + A) < 10 ^ (k + 1) * U := by rw [Nat.mul_add]; walk_at "ar"
      exact Nat.lt_of_mul_lt_mul_left this
    walk_at "ar"
end
section
variable {b N K m : Nat} {P e : Int}
theorem Dbl.fl (B : Dbl b N K P m e) : ∃ n, (n = P ∨ n = P - 1) ∧ (n = P - 1 → LT10 (m * 2 ^ e.toNat) (2 ^ (-e).toNat) (P - 1)) ∧ Fl b 0 m e N K n P ∧ Fl (b + 2 ^ 63) 1 m e N K n P := by
  obtain ⟨n, h1, h2, h3, h4, h5⟩ := B.gen.place
  have hp1 := B.dec.p1; have hp2 := B.dec.p2
  have hlt := B.lt
  unfold INFN at hlt
  have hm0 : 0 < m := Nat.lt_of_lt_of_le (by decide) B.near.m0
  refine ⟨n, h1, fun hh => ?_, ?_, ?_⟩
  · obtain ⟨f, hf, e1, e2⟩ := scF_ratio m e
    have := h5 hh
    rw [e1, e2, LT10.scale hf] at this; exact this
  · exact ⟨B.parts, by walk_at "ar", by decide, by rw [Nat.mod_eq_of_lt (by walk_at "ar")]; exact B.lt, by rw [Nat.mod_eq_of_lt (by walk_at "ar")]; exact B.nz, B.near.m1, hm0, ⟨B.e1, B.e2⟩, by walk_at "ar", h2, h3, h4, B.dec.k2, B.gen⟩
  · have hmod : (b + 2 ^ 63) % 2 ^ 63 = b := by walk_at "ar"
    refine ⟨?_, by walk_at "ar", by decide, by rw [hmod]; exact B.lt, by rw [hmod]; exact B.nz, B.near.m1, hm0, ⟨B.e1, B.e2⟩, by walk_at "ar", h2, h3, h4, B.dec.k2, B.gen⟩
    have hp := B.parts
    unfold partsF at hp ⊢
    have e1 := hi63 b
    have e2 := lo63 b
    have e3 : (b + 2 ^ 63) / 2 ^ 63 = 1 := by walk_at "ar"
    rw [e1, e2, e3]
    split at hp
    · rename_i h; rw [if_pos h]; have h2 := (Prod.mk.inj hp).2; rw [h2]
    · rename_i h; rw [if_neg h]; have h2 := (Prod.mk.inj hp).2; rw [h2]
end
theorem hu_near {a b I Z : Nat} (hb : 0 < b) (hZ : 0 < Z) (h1 : 4 * (Z * a) < 4 * (I * b) + b) (h2 : 4 * (I * b) < 4 * (Z * a) + b) (hne : 2 * (I % Z) ≠ Z) : huF a b = huF I Z := by
  have hw : ∃ w, huF I Z = w := ⟨_, rfl⟩
  obtain ⟨w, hw⟩ := hw
  rw [hw]
  have hZ2 : 0 < 2 * Z := by walk_at "ar"
  have k1 : 2 * Z * w ≤ 2 * I + Z := by rw [← hw]; exact Nat.mul_div_le _ _
  have k2 : 2 * I + Z < 2 * Z * (w + 1) := by rw [← hw]; unfold huF; rw [Nat.mul_add, Nat.mul_one]; exact Nat.lt_mul_div_succ _ hZ2
  have k3 : 2 * I + Z ≠ 2 * Z * w := by
    intro he
    have hI := Nat.div_add_mod I Z
    have hr := Nat.mod_lt I hZ
    generalize I % Z = r at *
    generalize I / Z = q at *
    have e : 2 * r + Z + 2 * (Z * q) = 2 * (Z * w) := by rw [← Nat.mul_assoc 2 Z w]; walk_at "ar"
    have hwq : w = q + 1 := by
      apply Nat.le_antisymm
      · apply Nat.le_of_lt_succ
        have : Z * w < Z * (q + 2) := by rw [Nat.mul_add]; walk_at "ar"
        exact Nat.lt_of_mul_lt_mul_left this
      · have : Z * q < Z * w := by walk_at "ar"
        exact Nat.lt_of_mul_lt_mul_left this
    rw [hwq, Nat.mul_add, Nat.mul_one] at e
    walk_at "ar"
  unfold huF
  have e1 : b * (2 * I + Z) = 2 * (I * b) + b * Z := by rw [Nat.mul_add]; simp only [Nat.mul_comm, Nat.mul_left_comm, Nat.mul_assoc]
  have e2 : Z * (2 * a + b) = 2 * (Z * a) + b * Z := by rw [Nat.mul_add, Nat.mul_comm Z b]; simp only [Nat.mul_comm, Nat.mul_left_comm, Nat.mul_assoc]
  have g1 : b * (2 * Z * w) + b ≤ b * (2 * I + Z) := by rw [← Nat.mul_succ]; exact Nat.mul_le_mul_left _ (by walk_at "ar")
  have g2 : b * (2 * I + Z) + b ≤ b * (2 * Z * (w + 1)) := by rw [← Nat.mul_succ]; exact Nat.mul_le_mul_left _ (by walk_at "ar")
  have f1 : b * (2 * Z * w) = Z * (w * (2 * b)) := by simp only [Nat.mul_comm, Nat.mul_left_comm, Nat.mul_assoc]
  have f2 : b * (2 * Z * (w + 1)) = Z * ((w + 1) * (2 * b)) := by simp only [Nat.mul_comm, Nat.mul_left_comm, Nat.mul_assoc]
  have l1 : Z * (w * (2 * b)) < Z * (2 * a + b) := by walk_at "ar"
  have l2 : Z * (2 * a + b) < Z * ((w + 1) * (2 * b)) := by walk_at "ar"
  have m1 := Nat.lt_of_mul_lt_mul_left l1
  have m2 := Nat.lt_of_mul_lt_mul_left l2
  exact Nat.div_eq_of_lt_le (by walk_at "ar") (by simpa using m2)

section
variable {b N K m : Nat} {P e : Int}
/-- a double rounds as its decimal does, but at a tie -/
theorem Dbl.hu (B : Dbl b N K P m e) (σ τ I Z : Nat) (hI : I ≤ 10 ^ 15) (hZ : 0 < Z) (hrel : tD N K P * 10 ^ σ * Z = I * dD K P * 10 ^ τ) (hne : 2 * (I % Z) ≠ Z) :
    huF (m * 2 ^ e.toNat * 10 ^ σ) (2 ^ (-e).toNat * 10 ^ τ) = huF I Z := by
  have hd := dpos K P
  have nr := B.near
  have n1 := nr.lo; have n2 := nr.hi
  obtain ⟨f1, _⟩ := B.fine
  have hx := Nat.two_pow_pos e.toNat
  have hy := Nat.two_pow_pos (-e).toNat
  have hs : 0 < 10 ^ σ := Nat.pow_pos (by decide)
  have ht : 0 < 10 ^ τ := Nat.pow_pos (by decide)
  unfold tT dT at f1
  generalize tD N K P = t at *
  generalize dD K P = d at *
  generalize 2 ^ e.toNat = X at *
  generalize 2 ^ (-e).toNat = Y at *
  generalize 10 ^ σ = S at *
  generalize 10 ^ τ = U at *
  -- the gap is small
  have q : 2 * (Z * S * X) < Y * U := by
    have e1 : 2 * (d * X * 10 ^ 15) * (Z * S) < t * Y * (Z * S) := Nat.mul_lt_mul_of_pos_right f1 (Nat.mul_pos hZ hs)
    have e2 : t * Y * (Z * S) = I * d * U * Y := by rw [← hrel]; simp only [Nat.mul_comm, Nat.mul_left_comm, Nat.mul_assoc]
    have e3 : 2 * (d * X * 10 ^ 15) * (Z * S) = 2 * (Z * S * X) * (d * 10 ^ 15) := by simp only [Nat.mul_comm, Nat.mul_left_comm, Nat.mul_assoc]
    have e4 : I * d * U * Y = Y * U * (d * I) := by simp only [Nat.mul_comm, Nat.mul_left_comm, Nat.mul_assoc]
    have e5 : Y * U * (d * I) ≤ Y * U * (d * 10 ^ 15) := Nat.mul_le_mul_left _ (Nat.mul_le_mul_left _ hI)
    rw [e3, e2, e4] at e1
    exact Nat.lt_of_mul_lt_mul_right (Nat.lt_of_lt_of_le e1 e5)
  have hb : 0 < Y * U := Nat.mul_pos hy ht
  have a1 : d * (Z * (m * X * S)) = Z * S * (m * (d * X)) := by simp only [Nat.mul_comm, Nat.mul_left_comm, Nat.mul_assoc]
  have a2 : d * (I * (Y * U)) = Z * S * (t * Y) := by
    have : d * (I * (Y * U)) = I * d * U * Y := by simp only [Nat.mul_comm, Nat.mul_left_comm, Nat.mul_assoc]
    rw [this, ← hrel]; simp only [Nat.mul_comm, Nat.mul_left_comm, Nat.mul_assoc]
  have a3 : d * (Z * S * X) = Z * S * (d * X) := by simp only [Nat.mul_comm, Nat.mul_left_comm, Nat.mul_assoc]
  have c1 : Z * S * (2 * (m * (d * X))) ≤ Z * S * (2 * (t * Y) + d * X) := Nat.mul_le_mul_left _ n1
  have c2 : Z * S * (2 * (t * Y)) ≤ Z * S * (2 * (m * (d * X)) + d * X) := Nat.mul_le_mul_left _ n2
  rw [Nat.mul_add, Nat.mul_left_comm _ 2, Nat.mul_left_comm _ 2, ← a1, ← a2, ← a3] at c1
  rw [Nat.mul_add, Nat.mul_left_comm _ 2, Nat.mul_left_comm _ 2, ← a1, ← a2, ← a3] at c2
  have d1 : 2 * (Z * (m * X * S)) ≤ 2 * (I * (Y * U)) + Z * S * X := by
    refine Nat.le_of_mul_le_mul_left (c := d) ?_ hd
    rw [Nat.mul_add, Nat.mul_left_comm d 2, Nat.mul_left_comm d 2]; exact c1
  have d2 : 2 * (I * (Y * U)) ≤ 2 * (Z * (m * X * S)) + Z * S * X := by
    refine Nat.le_of_mul_le_mul_left (c := d) ?_ hd
    rw [Nat.mul_add, Nat.mul_left_comm d 2, Nat.mul_left_comm d 2]; exact c2
  exact hu_near hb hZ (by walk_at "ar") (by walk_at "ar") hne

noncomputable def iN (N K many : Nat) : Nat := N * 10 ^ (many - K)
noncomputable def zN (K many : Nat) : Nat := 10 ^ (K - many)
/-- so many figures of the decimal, and whether they go one place up -/
noncomputable def cutP (N K many : Nat) : List Nat × Int := if 10 ^ many ≤ huF (iN N K many) (zN K many) then (dg (huF (iN N K many) (zN K many) / 10), 1) else (dg (huF (iN N K many) (zN K many)), 0)
theorem iN_le (D : Dec N K P) {many : Nat} (hm : many ≤ 15) : iN N K many ≤ 10 ^ 15 := by
  have h2 := D.k2
  have : N * 10 ^ (many - K) ≤ 10 ^ K * 10 ^ (many - K) := Nat.mul_le_mul_right _ (Nat.le_of_lt D.n2)
  rw [← Nat.pow_add] at this
  exact Nat.le_trans this (Nat.pow_le_pow_right (by decide) (by walk_at "ar"))
theorem huF_one (x : Nat) : huF x 1 = x := by unfold huF; walk_at "ar"
theorem Dbl.one (B : Dbl b N K P m e) (h : LT10 (m * 2 ^ e.toNat) (2 ^ (-e).toNat) (P - 1)) : N = 1 ∧ K = 1 := by
  have D := B.dec
  have hk := D.k1
  have key : N ≤ 10 ^ (K - 1) := by
    -- otherwise the decimal is a unit more than the power of ten, and the gap is less
    apply Decidable.byContradiction; intro hh
    have hN : 10 ^ (K - 1) + 1 ≤ N := by walk_at "ar"
    have nr := B.near
    have n2 := nr.hi
    obtain ⟨f1, _⟩ := B.fine
    have h1 := (LT10.at (t := m * 2 ^ e.toNat) (b := 2 ^ (-e).toNat) (P := P) 1).mp h
    obtain ⟨c, hc, hs, ht⟩ := share K P
    have ht := ht N
    have hN15 : N ≤ 10 ^ 15 := Nat.le_trans (Nat.le_of_lt D.n2) (Nat.pow_le_pow_right (by decide) D.k2)
    have hx := Nat.two_pow_pos e.toNat
    have hy := Nat.two_pow_pos (-e).toNat
    have hp : 0 < 10 ^ P.toNat := Nat.pow_pos (by decide)
    have hq : 0 < 10 ^ (-P).toNat := Nat.pow_pos (by decide)
    have hk2 : 10 ^ K = 10 ^ (K - 1) * 10 := by rw [← Nat.pow_succ]; congr 1; walk_at "ar"
    unfold tT dT at f1
    generalize tD N K P = t at *
    generalize dD K P = d at *
    generalize 2 ^ e.toNat = X at *
    generalize 2 ^ (-e).toNat = Y at *
    generalize 10 ^ P.toNat = U at *
    generalize 10 ^ (-P).toNat = Q at *
    generalize 10 ^ (K - 1) = k at *
    rw [hk2] at hs
    rw [Nat.pow_one] at h1
    -- times c
    have n2c : (2 * (t * Y)) * c ≤ (2 * (m * (d * X)) + d * X) * c := Nat.mul_le_mul_right _ n2
    have f1c : 2 * (d * X * 10 ^ 15) * c < t * Y * c := Nat.mul_lt_mul_of_pos_right f1 hc
    have r1 : t * Y * c = N * U * Y := by rw [ht]; simp only [Nat.mul_comm, Nat.mul_left_comm, Nat.mul_assoc]
    have r2 : m * (d * X) * c = k * (m * X * Q * 10) := by
      have : m * (d * X) * c = m * X * (d * c) := by simp only [Nat.mul_comm, Nat.mul_left_comm, Nat.mul_assoc]
      rw [this, ← hs]; simp only [Nat.mul_comm, Nat.mul_left_comm, Nat.mul_assoc]
    have r3 : k * (m * X * Q * 10) ≤ k * (Y * U) := Nat.mul_le_mul_left _ (Nat.le_of_lt h1)
    have r4 : (k + 1) * (Y * U) ≤ N * (Y * U) := Nat.mul_le_mul_right _ hN
    rw [Nat.add_mul, Nat.mul_assoc 2, Nat.mul_assoc 2, r1, r2] at n2c
    have r5 : 2 * (d * X * 10 ^ 15) * c = 2 * 10 ^ 15 * (d * X * c) := by simp only [Nat.mul_comm, Nat.mul_left_comm, Nat.mul_assoc]
    rw [r5, r1] at f1c
    have r6 : N * U * Y ≤ 10 ^ 15 * (Y * U) := by rw [Nat.mul_assoc, Nat.mul_comm U Y]; exact Nat.mul_le_mul_right _ hN15
    have r7 : N * U * Y = N * (Y * U) := by rw [Nat.mul_assoc, Nat.mul_comm U Y]
    rw [Nat.add_mul, Nat.one_mul] at r4
    generalize Y * U = YU at *
    generalize d * X * c = g at *
    generalize N * YU = NY at *
    generalize k * YU = kY at *
    walk_at "ar"
  have hN : N = 10 ^ (K - 1) := Nat.le_antisymm key D.n1
  have hK : K = 1 := by
    apply Decidable.byContradiction; intro hh
    have := D.n0
    rw [hN, show K - 1 = (K - 2) + 1 by walk_at "ar", Nat.pow_succ] at this
    walk_at "ar"
  refine ⟨?_, hK⟩
  rw [hN, hK]

theorem Dbl.rd (B : Dbl b N K P m e) {n : Int} {many : Nat} (hn : n = P ∨ n = P - 1) (hlow : n = P - 1 → LT10 (m * 2 ^ e.toNat) (2 ^ (-e).toNat) (P - 1)) (h1 : 1 ≤ many) (h2 : many ≤ 15) (hne : 2 * (iN N K many % zN K many) ≠ zN K many) :
    rdF (m * 2 ^ e.toNat) (2 ^ (-e).toNat) many n = ((cutP N K many).1, P - 1 + (cutP N K many).2) := by
  have D := B.dec
  have hk1 := D.k1
  rcases hn with hn | hn
  · subst hn
    have hw : rdN (m * 2 ^ e.toNat) (2 ^ (-e).toNat) many n = huF (iN N K many) (zN K many) := by
      unfold rdN
      refine B.hu _ _ _ _ (iN_le D h2) (Nat.pow_pos (by decide)) ?_ hne
      unfold tD dD iN zN
      have e1 : N * 10 ^ (n - (K : Int)).toNat * 10 ^ ((many : Int) - n).toNat * 10 ^ (K - many) = N * 10 ^ ((n - (K : Int)).toNat + ((many : Int) - n).toNat + (K - many)) := by
        rw [Nat.mul_assoc, Nat.mul_assoc, Nat.pow_add, Nat.pow_add, Nat.mul_assoc]
      have e2 : N * 10 ^ (many - K) * 10 ^ ((K : Int) - n).toNat * 10 ^ (n - (many : Int)).toNat = N * 10 ^ ((many - K) + ((K : Int) - n).toNat + (n - (many : Int)).toNat) := by
        rw [Nat.mul_assoc, Nat.mul_assoc, Nat.pow_add, Nat.pow_add, Nat.mul_assoc]
      rw [e1, e2, ar_rd]
    unfold rdF cutP
    rw [hw]
    split
    · simp only; rw [show n - 1 + 1 = n by walk_at "ar"]
    · simp only; rw [show n - 1 + 0 = n - 1 by walk_at "ar"]
  · obtain ⟨rfl, rfl⟩ := B.one (hlow hn)
    have hw : rdN (m * 2 ^ e.toNat) (2 ^ (-e).toNat) many n = 10 ^ many := by
      unfold rdN
      rw [B.hu _ _ (10 ^ many) 1 (Nat.pow_le_pow_right (by decide) h2) (by decide) ?_ (by walk_at "ar"), huF_one]
      unfold tD dD
      subst hn
      rw [Nat.one_mul, Nat.mul_one, ← Nat.pow_add, ← Nat.pow_add, ← Nat.pow_add, ar_rd1]
    have hi : iN 1 1 many = 10 ^ (many - 1) := by unfold iN; rw [Nat.one_mul]
    have hz : zN 1 many = 1 := by unfold zN; rw [show 1 - many = 0 by walk_at "ar", Nat.pow_zero]
    have hp : 10 ^ many = 10 ^ (many - 1) * 10 := by rw [← Nat.pow_succ]; congr 1; walk_at "ar"
    have hpos : 0 < 10 ^ (many - 1) := Nat.pow_pos (by decide)
    unfold rdF cutP
    rw [hw, hi, hz, huF_one, if_pos (Nat.le_refl _), if_neg (by walk_at "ar")]
    simp only
    rw [hp, Nat.mul_div_cancel _ (by decide), hn, show P - 1 + 0 = P - 1 by walk_at "ar"]
end
section
variable {b s m : Nat} {e : Int} {N K : Nat} {n P : Int}
noncomputable def tfF (sg : List Nat) (t d many : Nat) : List Nat :=
  let f := dg (huF (t * 10 ^ many) d)
  let g := zs (many + 1 - f.length) ++ f
  if many = 0 then sg ++ f else sg ++ g.take (g.length - many) ++ [46] ++ g.drop (g.length - many)
theorem sgF_len (s m : Nat) : (sgF s m).length ≤ 1 := by unfold sgF; split <;> decide
theorem to_fixed_spec {j : Nat} (many : Nat) (hm : many ≤ 50) (hb : partsF b = (s, m, e)) (hwo : woF b = none) (hm1 : m < 2 ^ 53) (he : -1100 ≤ e ∧ e ≤ 300) (hlt : m * 2 ^ e.toNat < 2 ^ (-e).toNat * 10 ^ 21) {Ψ : Dat → Prop}
    (h : Ψ (DS (tfF (sgF s m) (m * 2 ^ e.toNat) (2 ^ (-e).toNat) many))) : FSpec (j + 4) (Str.ofString "to_fixed") [.int b, .int many] Ψ := by
  refine FSpec.of_body (mem_rec (k := 40) rfl ⟨rfl, rfl, rfl⟩) (by walk_at "bind") (by decide +kernel) ?_
  change PS _ _ _ [(Str.ofString "many", .int many), (Str.ofString "bits", .int b)] _ _
  have e0 : lt "0" = [48] := by decide +kernel
  have ep : lt "." = [46] := by decide +kernel
  repeat' walk_at "ps"
  refine without_figures_spec b ?_
  rw [hwo]
  simp only [optD]
  repeat' walk_at "pe"
  refine sign_and_ratio_spec b s m e hb (by walk_at "ar") ?_
  have hml := sgF_len s m
  have p1 : 2 ^ e.toNat < 2 ^ 301 := Nat.pow_lt_pow_right (by decide) (by walk_at "ar")
  have p2 : 2 ^ (-e).toNat < 2 ^ 1101 := Nat.pow_lt_pow_right (by decide) (by walk_at "ar")
  have z1 : m * 2 ^ e.toNat < 2 ^ 400 := Nat.lt_trans (mul_pow_lt hm1 p1) (Nat.pow_lt_pow_right (by decide) (by decide))
  have z4 : 0 < 2 ^ (-e).toNat := Nat.two_pow_pos _
  generalize sgF s m = sg at *
  generalize m * 2 ^ e.toNat = t at *
  generalize 2 ^ (-e).toNat = d at *
  clear p1 he hm1 hb hwo
  have s1 : Sm t := Sm_le z1 (by decide)
  have s2 : Sm d := Sm_le p2 (by decide)
  have s3 : Sm (10 ^ 21) := show _ < _ by decide +kernel
  have x1 := ten_lt (x := many) (by walk_at "ar")
  have s4 : Sm (10 ^ many) := Sm_le x1 (by decide)
  have s5 : Sm (t * 10 ^ many) := Sm_le (mul_pow_lt z1 x1) (by decide)
  have s6 : Sm (2 * d) := Sm_le (mul_pow_lt (show 2 < 2 ^ 2 by decide) p2) (by decide)
  have hr : huF (t * 10 ^ many) d < 2 ^ 1900 := by
    unfold huF
    refine Nat.lt_of_le_of_lt (Nat.div_le_self _ _) ?_
    have y1 := mul_pow_lt z1 x1
    have y2 : d < 2 ^ 1400 := Nat.lt_trans p2 (Nat.pow_lt_pow_right (by decide) (by decide))
    have : 2 * (t * 10 ^ many) + d < 2 ^ 1402 := by
      rw [Nat.pow_succ, Nat.pow_succ]; walk_at "ar"
    exact Nat.lt_trans this (Nat.pow_lt_pow_right (by decide) (by decide))
  have hdl := dg_short hr
  clear x1 z1 p2
  repeat' walk_at "pe"
  refine ite_dec (fun hh => absurd hh (by walk_at "ar")) fun _ => ?_
  repeat' walk_at "pe"
  refine half_up_spec _ d z4 s5 s2 s6 ?_
  unfold tfF at h
  simp only at h
  clear hlt s1 s2 s3 s4 s5 s6
  generalize huF (t * 10 ^ many) d = w at *
  repeat' walk_at "pe"
  clear hr
  generalize dg w = f at *
  refine ite_eqN (fun h1 => ?_) fun h1 => ?_
  · rw [if_pos h1] at h
    repeat' walk_at "pe"
    exact h
  rw [if_neg h1] at h
  have hz : (zs (many + 1 - f.length)).length = many + 1 - f.length := by unfold zs; rw [List.length_replicate]
  have hg : (zs (many + 1 - f.length) ++ f).length = (many + 1 - f.length) + f.length := by rw [List.length_append, hz]
  have e1 : (((many + 1 : Nat) : Int) - (f.length : Int)).toNat = many + 1 - f.length := Int.toNat_sub _ _
  repeat' walk_at "pe"
  rw [e0]
  refine PBin.zeros (by walk_at "ar") (by walk_at "ar") ?_
  rw [e1]
  generalize hgd : zs (many + 1 - f.length) = z at *
  repeat' walk_at "st"
  generalize hgg : z ++ f = g at *
  have hgl : g.length ≤ 2000 := by walk_at "ar"
  have v1 : sg.length + (g.take (g.length - many)).length ≤ 16777216 := by rw [List.length_take]; exact one_cut (by walk_at "ar")
  have v2 : (sg ++ g.take (g.length - many)).length + ([46] : List Nat).length ≤ 16777216 := by rw [List.length_append, List.length_take]; exact a_with_one (by walk_at "ar")
  have v3 : (sg ++ g.take (g.length - many) ++ [46]).length + (g.drop (g.length - many)).length ≤ 16777216 := by
    simp only [List.length_append, List.length_take, List.length_drop, List.length_cons, List.length_nil]; exact two_cuts (by walk_at "ar")
  repeat' first | walk_at "pe" | rw [ep]
  exact h
theorem to_fixed_big {j : Nat} (many : Nat) (F : Fl b s m e N K n P) (hlt : 2 ^ (-e).toNat * 10 ^ 21 ≤ m * 2 ^ e.toNat) {Ψ : Dat → Prop}
    (h : Ψ (DS (minusF s ++ loF (dg N) P))) : FSpec (j + 5) (Str.ofString "to_fixed") [.int b, .int many] Ψ := by
  refine FSpec.of_body (mem_rec (k := 40) rfl ⟨rfl, rfl, rfl⟩) (by walk_at "bind") (by decide +kernel) ?_
  change PS _ _ _ [(Str.ofString "many", .int many), (Str.ofString "bits", .int b)] _ _
  repeat' walk_at "ps"
  refine without_figures_spec b ?_
  rw [F.wo]
  simp only [optD]
  repeat' walk_at "pe"
  refine sign_and_ratio_spec b s m e F.parts (by have := F.e1; walk_at "ar") ?_
  rw [F.sgn]
  obtain ⟨z1, z2, z3, z4⟩ := F.sizes
  generalize m * 2 ^ e.toNat = t at *
  generalize 2 ^ (-e).toNat = d at *
  have s2 : Sm d := Sm_le z2 (by decide)
  have s3 : Sm (10 ^ 21) := show _ < _ by decide +kernel
  clear z1 z2
  repeat' walk_at "pe"
  refine ite_dec (fun _ => ?_) fun hh => absurd hlt hh
  repeat' walk_at "pe"
  refine show_spec F ?_
  repeat' walk_at "pe"
  exact h
theorem to_fixed_wo {j : Nat} (b many : Nat) (l : List Nat) (hb : woF b = some l) {Ψ : Dat → Prop} (h : Ψ (DS l)) : FSpec (j + 4) (Str.ofString "to_fixed") [.int b, .int many] Ψ := by
  refine FSpec.of_body (mem_rec (k := 40) rfl ⟨rfl, rfl, rfl⟩) (by walk_at "bind") (by decide +kernel) ?_
  change PS _ _ _ [(Str.ofString "many", .int many), (Str.ofString "bits", .int b)] _ _
  repeat' walk_at "ps"
  refine without_figures_spec b ?_
  rw [hb]
  simp only [optD]
  repeat' walk_at "pe"
  exact h
theorem to_exponential_wo {j : Nat} (b : Nat) (l : List Nat) (hb : woF b = some l) {Ψ : Dat → Prop} (h : Ψ (DS l)) : FSpec (j + 4) (Str.ofString "to_exponential") [.int b, .none] Ψ := by
  refine FSpec.of_body (mem_rec (k := 42) rfl ⟨rfl, rfl, rfl⟩) (by walk_at "bind") (by decide +kernel) ?_
  change PS _ _ _ [(Str.ofString "many", .none), (Str.ofString "bits", .int b)] _ _
  repeat' walk_at "ps"
  refine without_figures_spec b ?_
  rw [hb]
  simp only [optD]
  repeat' walk_at "pe"
  exact h
theorem to_precision_wo {j : Nat} (b many : Nat) (l : List Nat) (hb : woF b = some l) {Ψ : Dat → Prop} (h : Ψ (DS l)) : FSpec (j + 4) (Str.ofString "to_precision") [.int b, .int many] Ψ := by
  refine FSpec.of_body (mem_rec (k := 43) rfl ⟨rfl, rfl, rfl⟩) (by walk_at "bind") (by decide +kernel) ?_
  change PS _ _ _ [(Str.ofString "many", .int many), (Str.ofString "bits", .int b)] _ _
  repeat' walk_at "ps"
  refine without_figures_spec b ?_
  rw [hb]
  simp only [optD]
  repeat' walk_at "pe"
  exact h
theorem zs_len (x : Nat) : (zs x).length = x := by unfold zs; rw [List.length_replicate]
/-- a zero -/
theorem to_exponential_zero {j : Nat} (many : Nat) (hm : many ≤ 50) (hb : partsF b = (s, 0, -1074)) (hwo : woF b = none) {Ψ : Dat → Prop}
    (h : Ψ (DS (weF (zs (1 + many)) 0))) : FSpec (j + 4) (Str.ofString "to_exponential") [.int b, .int many] Ψ := by
  refine FSpec.of_body (mem_rec (k := 42) rfl ⟨rfl, rfl, rfl⟩) (by walk_at "bind") (by decide +kernel) ?_
  change PS _ _ _ [(Str.ofString "many", .int many), (Str.ofString "bits", .int b)] _ _
  have e0 : lt "0" = [48] := by decide +kernel
  repeat' walk_at "ps"
  refine without_figures_spec b ?_
  rw [hwo]
  simp only [optD]
  repeat' walk_at "pe"
  refine sign_and_ratio_spec b s 0 (-1074) hb (by decide) ?_
  rw [Nat.zero_mul]
  generalize 2 ^ (-(-1074 : Int)).toNat = d
  repeat' walk_at "pe"
  refine ite_eqN (fun _ => ?_) fun hh => absurd rfl hh
  repeat' walk_at "pe"
  rw [e0]
  refine PBin.zeros (by walk_at "ar") (by walk_at "ar") ?_
  have hz := zs_len (1 + many)
  rw [show ((1 + many : Nat) : Int).toNat = 1 + many by walk_at "ar"]
  repeat' walk_at "pe"
  refine with_exponent_spec _ 0 (by walk_at "ar") (by decide +kernel) ?_
  repeat' walk_at "pe"
  exact h
theorem to_exponential_zero_none {j : Nat} (hb : partsF b = (s, 0, -1074)) (hwo : woF b = none) {Ψ : Dat → Prop}
    (h : Ψ (DS (weF [48] 0))) : FSpec (j + 4) (Str.ofString "to_exponential") [.int b, .none] Ψ := by
  refine FSpec.of_body (mem_rec (k := 42) rfl ⟨rfl, rfl, rfl⟩) (by walk_at "bind") (by decide +kernel) ?_
  change PS _ _ _ [(Str.ofString "many", .none), (Str.ofString "bits", .int b)] _ _
  have e0 : lt "0" = [48] := by decide +kernel
  repeat' walk_at "ps"
  refine without_figures_spec b ?_
  rw [hwo]
  simp only [optD]
  repeat' walk_at "pe"
  refine sign_and_ratio_spec b s 0 (-1074) hb (by decide) ?_
  rw [Nat.zero_mul]
  generalize 2 ^ (-(-1074 : Int)).toNat = d
  repeat' walk_at "pe"
  refine ite_eqN (fun _ => ?_) fun hh => absurd rfl hh
  repeat' walk_at "pe"
  rw [e0]
  refine PBin.zeros (by decide) (by decide) ?_
  repeat' walk_at "pe"
  refine with_exponent_spec _ 0 (by decide) (by decide +kernel) ?_
  repeat' walk_at "pe"
  exact h
end
noncomputable def lpF (f : List Nat) (p : Int) : List Nat :=
  let text := zs (1 - p).toNat ++ f ++ zs (p - f.length).toNat
  let place := (max p 1).toNat
  text.take place ++ (if place < text.length then [46] ++ text.drop place else [])
noncomputable def lqF (f : List Nat) (p : Int) : List Nat := f.take 1 ++ (if 1 < f.length then [46] ++ f.drop 1 else []) ++ [101] ++ (if 0 < p then [43] else [45]) ++ dg (p - 1).natAbs
theorem weF_eq (f : List Nat) (p : Int) : weF f (p - 1) = lqF f p := by
  unfold weF lqF seF
  by_cases h : 0 < p
  · rw [if_pos h, if_neg (show ¬ (p - 1 < 0) by walk_at "ar")]; simp only [List.append_assoc]
  · rw [if_neg h, if_pos (show p - 1 < 0 by walk_at "ar")]; simp only [List.append_assoc]
theorem zs_zero : zs 0 = [] := rfl
theorem lp_long {f : List Nat} {p : Int} (h0 : 1 ≤ f.length) (h : (f.length : Int) ≤ p) : lpF f p = f ++ zs (p - f.length).toNat := by
  unfold lpF
  have hm := mxl h0 h
  simp only
  rw [show (1 - p).toNat = 0 by walk_at "ar", zs_zero, List.nil_append, hm]
  have hl : (f ++ zs (p - f.length).toNat).length = f.length + (p - f.length).toNat := by rw [List.length_append, zs_len]
  rw [if_neg (by walk_at "ar"), List.append_nil, List.take_of_length_le (by walk_at "ar")]
theorem lp_mid {f : List Nat} {p : Int} (h0 : 0 < p) (h : p < f.length) : lpF f p = f.take p.toNat ++ [46] ++ f.drop p.toNat := by
  unfold lpF
  simp only
  rw [show (1 - p).toNat = 0 by walk_at "ar", show (p - f.length).toNat = 0 by walk_at "ar", zs_zero, List.nil_append, List.append_nil, show (max p 1).toNat = p.toNat by walk_at "ar", if_pos (by walk_at "ar"), List.append_assoc]
theorem lp_low {f : List Nat} {p : Int} (h1 : 1 ≤ f.length) (h0 : p ≤ 0) : lpF f p = [48, 46] ++ zs (-p).toNat ++ f := by
  unfold lpF
  simp only
  rw [show (1 - p).toNat = (-p).toNat + 1 by walk_at "ar", show (p - f.length).toNat = 0 by walk_at "ar", zs_zero, List.append_nil, show (max p 1).toNat = 1 by walk_at "ar"]
  have : zs ((-p).toNat + 1) = 48 :: zs (-p).toNat := rfl
  rw [this, if_pos (by simp [zs_len]; walk_at "ar")]
  simp
theorem loF_eq {f : List Nat} {p : Int} (h1 : 1 ≤ f.length) : loF f p = if -6 < p ∧ p ≤ 21 then lpF f p else lqF f p := by
  unfold loF
  by_cases h : (f.length : Int) ≤ p ∧ p ≤ 21
  · rw [if_pos h, if_pos (by walk_at "ar"), lp_long h1 h.1]
  rw [if_neg h]
  by_cases h2 : 0 < p ∧ p ≤ 21
  · rw [if_pos h2, if_pos (by walk_at "ar"), lp_mid h2.1 (by walk_at "ar")]
  rw [if_neg h2]
  by_cases h3 : -6 < p ∧ p ≤ 0
  · rw [if_pos h3, if_pos (by walk_at "ar"), lp_low h1 h3.2]
  rw [if_neg h3, if_neg (by walk_at "ar"), weF_eq]
theorem tpF_eq {f : List Nat} {p : Int} {many : Nat} (h1 : 1 ≤ many) (hl : f.length = many) : tpF f (p - 1) many = if -6 < p ∧ p ≤ many then lpF f p else lqF f p := by
  unfold tpF
  by_cases h : p - 1 < -6 ∨ (many : Int) ≤ p - 1
  · rw [if_pos h, if_neg (by walk_at "ar"), weF_eq]
  have hr : (if -6 < p ∧ p ≤ (many : Int) then lpF f p else lqF f p) = lpF f p := if_pos (by walk_at "ar")
  rw [if_neg h, hr]
  by_cases h2 : p - 1 = (many : Int) - 1
  · rw [if_pos h2, lp_long (by walk_at "ar") (by walk_at "ar"), show (p - f.length).toNat = 0 by walk_at "ar", zs_zero, List.append_nil]
  rw [if_neg h2]
  by_cases h3 : 0 ≤ p - 1
  · rw [if_pos h3, lp_mid (by walk_at "ar") (by walk_at "ar"), show p - 1 + 1 = p by walk_at "ar"]
  · rw [if_neg h3, lp_low (by walk_at "ar") (by walk_at "ar"), show (-(p - 1) - 1).toNat = (-p).toNat by walk_at "ar"]

/-! such texts are read as the figures that they tell -/
noncomputable def Fig (l : List Nat) : Prop := ∀ c ∈ l, 48 ≤ c ∧ c ≤ 57
noncomputable def Sgn (l : List Nat) : Prop := ∀ c ∈ l, (48 ≤ c ∧ c ≤ 57) ∨ c = 46 ∨ c = 101 ∨ c = 43 ∨ c = 45
theorem Fig.app {a b : List Nat} (h1 : Fig a) (h2 : Fig b) : Fig (a ++ b) := fun c hc => (List.mem_append.mp hc).elim (h1 c) (h2 c)
theorem Fig.zs (n : Nat) : Fig (zs n) := fun c hc => by unfold Mine.zs at hc; rw [List.mem_replicate] at hc; walk_at "ar"
theorem Fig.dg (n : Nat) : Fig (dg n) := dg_fig n
theorem Fig.take {a : List Nat} (h : Fig a) (n : Nat) : Fig (a.take n) := fun c hc => h c (List.mem_of_mem_take hc)
theorem Fig.drop {a : List Nat} (h : Fig a) (n : Nat) : Fig (a.drop n) := fun c hc => h c (List.mem_of_mem_drop hc)
theorem Fig.sgn {a : List Nat} (h : Fig a) : Sgn a := fun c hc => .inl (h c hc)
theorem Sgn.app {a b : List Nat} (h1 : Sgn a) (h2 : Sgn b) : Sgn (a ++ b) := fun c hc => (List.mem_append.mp hc).elim (h1 c) (h2 c)
theorem isB_small : ∀ c, c < 102 → ((48 ≤ c ∧ c ≤ 57) ∨ c = 46 ∨ c = 101 ∨ c = 43 ∨ c = 45) → isB c = false := by decide +kernel
theorem isB_no {c : Nat} (h : (48 ≤ c ∧ c ≤ 57) ∨ c = 46 ∨ c = 101 ∨ c = 43 ∨ c = 45) : isB c = false := isB_small c (by walk_at "ar") h
theorem takeWhile_no {l : List Nat} (h : Sgn l) : l.takeWhile isB = [] := by
  cases l with
  | nil => rfl
  | cons c t => rw [List.takeWhile_cons, isB_no (h c (.head _))]; rfl
theorem trimF_no {l : List Nat} (h : Sgn l) : trimF l = l := by
  have h0 : skipF l 0 = 0 := by unfold skipF; rw [List.drop_zero, takeWhile_no h]; rfl
  have hr : Sgn l.reverse := fun c hc => h c (List.mem_reverse.mp hc)
  unfold trimF
  rw [h0, List.drop_zero, takeWhile_no hr, List.length_nil, Nat.sub_zero, cut_all]
theorem figF_fig {c : Nat} (h : 48 ≤ c ∧ c ≤ 57) : figF c < 10 := by unfold figF; rw [if_pos h]; walk_at "ar"
theorem runF_app {pre A rest : List Nat} (hA : Fig A) (hr : ∀ c ∈ rest.head?, ¬ figF c < 10) : runF (pre ++ A ++ rest) pre.length 10 = pre.length + A.length := by
  unfold runF
  rw [List.append_assoc, List.drop_left]
  congr 1
  induction A with
  | nil =>
    cases rest with
    | nil => rfl
    | cons c t =>
      have hc : ¬ decide (figF c < 10) = true := by have := hr c (by simp); simpa using this
      rw [List.nil_append, List.takeWhile_cons, if_neg hc]
  | cons c t ih =>
    rw [List.cons_append, List.takeWhile_cons, if_pos (by simpa using figF_fig (hA c (.head _))), List.length_cons, List.length_cons, ih (fun c hc => hA c (.tail _ hc))]
theorem cut_app {pre A rest : List Nat} : cut (pre ++ A ++ rest) pre.length (pre.length + A.length) = A := by
  unfold cut
  rw [List.take_append_of_le_length (by rw [List.length_append]; walk_at "ar"), List.take_of_length_le (by rw [List.length_append]; walk_at "ar"), List.drop_left]

/-- the exponent that stands behind the figures -/
inductive Tail : List Nat → Int → Prop
  | nil : Tail [] 0
  | pos {x : Nat} (h : x < 10 ^ 9) : Tail ([101, 43] ++ dg x) x
  | neg {x : Nat} (h : x < 10 ^ 9) : Tail ([101, 45] ++ dg x) (-(x : Int))
theorem getD_app {pre : List Nat} {c : Nat} {t : List Nat} : (pre ++ c :: t).getD pre.length 0 = c := by simp
theorem expF_tail {pre E : List Nat} {v : Int} (h : Tail E v) : expF (pre ++ E) pre.length = (v, (pre ++ E).length) := by
  have go : ∀ (s x : Nat), (s = 43 ∨ s = 45) → x < 10 ^ 9 → expF (pre ++ ([101, s] ++ dg x)) pre.length = (if (s == 45) = true then -(x : Int) else x, (pre ++ ([101, s] ++ dg x)).length) := by
    intro s x hs hx
    have hp := dg_pos x
    have hlen : (pre ++ ([101, s] ++ dg x)).length = pre.length + 2 + (dg x).length := by simp only [List.length_append, List.length_cons, List.length_nil]; walk_at "ar"
    have g1 : (pre ++ ([101, s] ++ dg x)).getD pre.length 0 = 101 := getD_app
    have e2 : pre ++ ([101, s] ++ dg x) = (pre ++ [101]) ++ s :: dg x := by simp
    have g2 : (pre ++ ([101, s] ++ dg x)).getD (pre.length + 1) 0 = s := by
      rw [e2]
      have := getD_app (pre := pre ++ [101]) (c := s) (t := dg x)
      rwa [List.length_append] at this
    have hsig : signF (pre ++ ([101, s] ++ dg x)) (pre.length + 1) = (s == 45, pre.length + 2) := by
      unfold signF
      rw [g2, if_pos ⟨by walk_at "ar", hs⟩]
    have e3 : pre ++ ([101, s] ++ dg x) = (pre ++ [101, s]) ++ dg x ++ [] := by simp
    have hl3 : (pre ++ [101, s]).length = pre.length + 2 := by simp
    have hrun : runF (pre ++ ([101, s] ++ dg x)) (pre.length + 2) 10 = pre.length + 2 + (dg x).length := by
      rw [e3, ← hl3]; exact runF_app (Fig.dg x) (by simp)
    have hcut : cut (pre ++ ([101, s] ++ dg x)) (pre.length + 2) (pre.length + 2 + (dg x).length) = dg x := by
      rw [e3, ← hl3]; exact cut_app
    unfold expF
    rw [if_neg (fun hh => hh ⟨by walk_at "ar", .inl g1⟩), hsig]
    simp only
    rw [hrun, if_neg (by walk_at "ar")]
    unfold worthF
    rw [hcut, foldF_dg, Nat.min_eq_left (Nat.le_of_lt hx), hlen]
  cases h with
  | nil => unfold expF; rw [List.append_nil, if_pos (fun hh => absurd hh.1 (by walk_at "ar"))]
  | pos hx => rw [go 43 _ (.inl rfl) hx]; rfl
  | neg hx => rw [go 45 _ (.inr rfl) hx]; rfl
theorem Tail.sgn {E : List Nat} {v : Int} (h : Tail E v) : Sgn E := by
  cases h with
  | nil => intro c hc; cases hc
  | pos _ => exact Sgn.app (fun c hc => by simp at hc; walk_at "ar") (Fig.dg _).sgn
  | neg _ => exact Sgn.app (fun c hc => by simp at hc; walk_at "ar") (Fig.dg _).sgn
theorem Tail.stop {E : List Nat} {v : Int} (h : Tail E v) : ∀ c ∈ E.head?, ¬ figF c < 10 := by
  cases h with
  | nil => intro c hc; cases hc
  | pos _ => intro c hc; simp at hc; subst hc; decide
  | neg _ => intro c hc; simp at hc; subst hc; decide
theorem Tail.noDot {E : List Nat} {v : Int} (h : Tail E v) (pre : List Nat) : ¬ (pre.length < (pre ++ E).length ∧ (pre ++ E).getD pre.length 0 = 46) := by
  cases h with
  | nil => simp
  | pos _ => intro hh; have := hh.2; rw [List.cons_append, getD_app] at this; exact absurd this (by decide)
  | neg _ => intro hh; have := hh.2; rw [List.cons_append, getD_app] at this; exact absurd this (by decide)

theorem endless_no {l : List Nat} (h : Sgn l) : cut l 0 (0 + 8) ≠ ENDLESSL := by
  intro hh
  have : (73 : Nat) ∈ cut l 0 (0 + 8) := by rw [hh]; decide
  unfold cut at this
  have := h 73 (List.mem_of_mem_take (List.mem_of_mem_drop this))
  walk_at "ar"
theorem decF_plain {A E : List Nat} {v : Int} (hA : Fig A) (hne : A ≠ []) (hE : Tail E v) : decF (A ++ E) 0 = some (fdF A v, (A ++ E).length) := by
  unfold decF
  rw [if_neg (endless_no (Sgn.app hA.sgn hE.sgn))]
  have hrun : runF (A ++ E) 0 10 = A.length := by
    have := runF_app (pre := []) hA hE.stop
    simpa using this
  have hcut : cut (A ++ E) 0 A.length = A := by
    have := cut_app (pre := []) (A := A) (rest := E)
    simpa using this
  simp only [hrun]
  rw [if_neg (hE.noDot A), if_neg (hE.noDot A), if_neg (hE.noDot A), hcut, if_neg hne, expF_tail hE]
  simp
theorem decF_dot {A B E : List Nat} {v : Int} (hA : Fig A) (hB : Fig B) (hne : A ≠ []) (hE : Tail E v) : decF (A ++ [46] ++ B ++ E) 0 = some (fdF (A ++ B) (v - B.length), (A ++ [46] ++ B ++ E).length) := by
  have h46 : Sgn [46] := fun c hc => by simp at hc; walk_at "ar"
  have hS : Sgn (A ++ [46] ++ B ++ E) := Sgn.app (Sgn.app (Sgn.app hA.sgn h46) hB.sgn) hE.sgn
  unfold decF
  rw [if_neg (endless_no hS)]
  have hrun : runF (A ++ [46] ++ B ++ E) 0 10 = A.length := by
    have := runF_app (pre := []) (rest := [46] ++ B ++ E) hA (by intro c hc; simp at hc; subst hc; decide)
    simpa using this
  have hcut : cut (A ++ [46] ++ B ++ E) 0 A.length = A := by
    have := cut_app (pre := []) (A := A) (rest := [46] ++ B ++ E)
    simpa using this
  have hdot : A.length < (A ++ [46] ++ B ++ E).length ∧ (A ++ [46] ++ B ++ E).getD A.length 0 = 46 := by
    refine ⟨by simp only [List.length_append, List.length_cons, List.length_nil]; walk_at "ar", ?_⟩
    have := getD_app (pre := A) (c := 46) (t := B ++ E)
    simpa using this
  have hl : (A ++ [46]).length = A.length + 1 := by simp
  have hrun2 : runF (A ++ [46] ++ B ++ E) (A.length + 1) 10 = A.length + 1 + B.length := by
    rw [← hl]; exact runF_app hB hE.stop
  have hcut2 : cut (A ++ [46] ++ B ++ E) (A.length + 1) (A.length + 1 + B.length) = B := by
    rw [← hl]; exact cut_app
  have hl2 : (A ++ [46] ++ B).length = A.length + 1 + B.length := by simp only [List.length_append, List.length_cons, List.length_nil]
  have hexp : expF (A ++ [46] ++ B ++ E) (A.length + 1 + B.length) = (v, (A ++ [46] ++ B ++ E).length) := by
    rw [← hl2]; exact expF_tail hE
  simp only [hrun]
  rw [if_pos hdot, if_pos hdot, if_pos hdot, hrun2, hcut, hcut2, if_neg (by simp [hne]), hexp]
  rw [show A.length + 1 + B.length - A.length - 1 = B.length by walk_at "ar"]

theorem ttnF_of {c : Nat} {l : List Nat} {x : Nat} (hS : Sgn (c :: l)) (hc : 48 ≤ c ∧ c ≤ 57) (h : decF (c :: l) 0 = some (x, (c :: l).length)) : ttnF (c :: l) = x := by
  have hsig : signF (c :: l) 0 = (false, 0) := by
    unfold signF
    rw [if_neg]
    simp only [List.getD_cons_zero]
    walk_at "ar"
  unfold ttnF
  simp only
  rw [trimF_no hS, if_neg (by simp), if_neg, hsig]
  · simp only
    rw [h]
    simp [turnF]
  · have key : ∀ z, (z = 120 ∨ z = 88) → (c :: l).take 2 ≠ [48, z] := by
      intro z hz hh
      have : z ∈ (c :: l).take 2 := by rw [hh]; simp
      have := hS z (List.mem_of_mem_take this)
      walk_at "ar"
    exact fun hh => hh.elim (key 120 (.inl rfl)) (key 88 (.inr rfl))

theorem lstr_zs (a : Nat) (f : List Nat) : lstr (zs a ++ f) [48] = lstr f [48] := by
  induction a with
  | zero => rfl
  | succ a ih =>
    have : zs (a + 1) = 48 :: zs a := rfl
    rw [this, List.cons_append]
    unfold lstr at ih ⊢
    rw [List.dropWhile_cons, if_pos (by decide), ih]
theorem fdF_zs (a : Nat) (f : List Nat) (e : Int) : fdF (zs a ++ f) e = fdF f e := by unfold fdF; rw [lstr_zs]
theorem foldF_zs (l : List Nat) (j : Nat) : foldF 10 (l ++ zs j) = foldF 10 l * 10 ^ j := by
  induction j with
  | zero => rw [zs_zero, List.append_nil, Nat.pow_zero, Nat.mul_one]
  | succ j ih =>
    have : zs (j + 1) = zs j ++ [48] := by unfold zs; rw [List.replicate_succ']
    rw [this, ← List.append_assoc]
    have e : foldF 10 (l ++ zs j ++ [48]) = foldF 10 (l ++ zs j) * 10 + figF 48 := by unfold foldF; rw [List.foldl_append]; rfl
    rw [e, ih, Nat.pow_succ, ← Nat.mul_assoc]; rfl

section
variable {N K : Nat} {P : Int}
theorem Dec.fd_zs (D : Dec N K P) (h : (K : Int) ≤ P) : fdF (dg N ++ zs (P - K).toNat) 0 = fdF (dg N) (P - K) := by
  have h1 := D.p1; have h2 := D.p2; have h3 := D.len; have h4 := D.k1; have h5 := D.k2
  obtain ⟨c, l, hc, hc1, hc2⟩ := D.first
  have e1 : Mine.lstr (dg N ++ zs (P - K).toNat) [48] = dg N ++ zs (P - K).toNat := by
    rw [hc, List.cons_append]
    unfold Mine.lstr
    rw [List.dropWhile_cons, if_neg]
    simp; walk_at "ar"
  have hl : (dg N ++ zs (P - K).toNat).length = K + (P - K).toNat := by rw [List.length_append, zs_len, h3]
  have hne : dg N ≠ [] := by rw [hc]; simp
  rw [D.fd]
  unfold fdF
  rw [e1, hl, if_neg (fun hh => hh.elim (by simp [hne]) (by walk_at "ar")), if_neg (by walk_at "ar"), if_pos (by decide), foldF_zs, foldF_dg]
  unfold tD dD
  rw [show ((K : Int) - P).toNat = 0 by walk_at "ar"]
  simp
theorem Dec.read_lp (D : Dec N K P) : ttnF (lpF (dg N) P) = fdF (dg N) (P - K) := by
  have h3 := D.len; have h4 := D.k1
  obtain ⟨c, l, hc, hc1, hc2⟩ := D.first
  have hne : dg N ≠ [] := by rw [hc]; simp
  have h46 : Sgn [46] := fun c hc => by simp at hc; walk_at "ar"
  by_cases h : (K : Int) ≤ P
  · rw [lp_long (by walk_at "ar") (by walk_at "ar"), h3, ← D.fd_zs h]
    have hF : Fig (dg N ++ zs (P - K).toNat) := (Fig.dg N).app (Fig.zs _)
    have hd := decF_plain hF (by simp [hne]) Tail.nil
    rw [List.append_nil] at hd
    revert hd
    have hS := hF.sgn
    revert hS
    rw [hc, List.cons_append]
    intro hS hd
    exact ttnF_of hS ⟨by walk_at "ar", hc2⟩ hd
  by_cases h0 : 0 < P
  · rw [lp_mid h0 (by walk_at "ar")]
    have hd := decF_dot (A := (dg N).take P.toNat) (B := (dg N).drop P.toNat) ((Fig.dg N).take _) ((Fig.dg N).drop _) (by rw [hc, show P.toNat = (P.toNat - 1) + 1 by walk_at "ar"]; simp) Tail.nil
    rw [List.append_nil, List.take_append_drop, List.length_drop, h3] at hd
    have hS : Sgn ((dg N).take P.toNat ++ [46] ++ (dg N).drop P.toNat) := Sgn.app (Sgn.app ((Fig.dg N).take _).sgn h46) ((Fig.dg N).drop _).sgn
    rw [show (0 : Int) - ((K - P.toNat : Nat) : Int) = P - K by walk_at "ar"] at hd
    revert hS hd
    generalize fdF (dg N) (P - K) = x
    rw [hc, show P.toNat = (P.toNat - 1) + 1 by walk_at "ar", List.take_succ_cons, List.cons_append, List.cons_append]
    intro hd hS
    exact ttnF_of hS ⟨by walk_at "ar", hc2⟩ hd
  · rw [lp_low (by walk_at "ar") (by walk_at "ar")]
    have hB : Fig (zs (-P).toNat ++ dg N) := (Fig.zs _).app (Fig.dg N)
    have h48 : Fig [48] := fun c hc => by simp at hc; walk_at "ar"
    have hd := decF_dot (A := [48]) h48 hB (by simp) Tail.nil
    rw [List.append_nil, ← List.append_assoc [48]] at hd
    have e1 : ([48] : List Nat) ++ zs (-P).toNat = zs ((-P).toNat + 1) := rfl
    rw [e1, fdF_zs, List.length_append, zs_len, h3] at hd
    rw [show (0 : Int) - (((-P).toNat + K : Nat) : Int) = P - K by walk_at "ar"] at hd
    have e2 : [48, 46] ++ zs (-P).toNat ++ dg N = [48] ++ [46] ++ (zs (-P).toNat ++ dg N) := by simp
    rw [e2]
    exact ttnF_of (Sgn.app (Sgn.app h48.sgn h46) hB.sgn) ⟨by decide, by decide⟩ hd
theorem Dec.read_lq (D : Dec N K P) : ttnF (lqF (dg N) P) = fdF (dg N) (P - K) := by
  have h1 := D.p1; have h2 := D.p2; have h3 := D.len; have h4 := D.k1
  obtain ⟨c, l, hc, hc1, hc2⟩ := D.first
  have h46 : Sgn [46] := fun c hc => by simp at hc; walk_at "ar"
  have hT : Tail ([101] ++ (if 0 < P then [43] else [45]) ++ dg (P - 1).natAbs) (P - 1) := by
    by_cases h : 0 < P
    · rw [if_pos h]
      have := Tail.pos (x := (P - 1).natAbs) (by walk_at "ar")
      rwa [show ((P - 1).natAbs : Int) = P - 1 by walk_at "ar"] at this
    · rw [if_neg h]
      have := Tail.neg (x := (P - 1).natAbs) (by walk_at "ar")
      rwa [show -((P - 1).natAbs : Int) = P - 1 by walk_at "ar"] at this
  have e0 : lqF (dg N) P = (dg N).take 1 ++ (if 1 < (dg N).length then [46] ++ (dg N).drop 1 else []) ++ ([101] ++ (if 0 < P then [43] else [45]) ++ dg (P - 1).natAbs) := by
    unfold lqF; simp only [List.append_assoc]
  rw [e0]
  generalize [101] ++ (if 0 < P then [43] else [45]) ++ dg (P - 1).natAbs = E at *
  by_cases hK : K = 1
  · rw [if_neg (by walk_at "ar"), List.append_nil]
    have hA : (dg N).take 1 = dg N := List.take_of_length_le (by walk_at "ar")
    rw [hA]
    have hd := decF_plain (A := dg N) (Fig.dg N) (by rw [hc]; simp) hT
    have hS := Sgn.app (Fig.dg N).sgn hT.sgn
    rw [show P - 1 = P - (K : Int) by walk_at "ar"] at hd
    revert hS hd
    generalize fdF (dg N) (P - K) = x
    rw [hc, List.cons_append]
    intro hd hS
    exact ttnF_of hS ⟨by walk_at "ar", hc2⟩ hd
  · rw [if_pos (by walk_at "ar")]
    have hd := decF_dot (A := (dg N).take 1) (B := (dg N).drop 1) ((Fig.dg N).take _) ((Fig.dg N).drop _) (by rw [hc]; simp) hT
    rw [List.take_append_drop, List.length_drop, h3, show P - 1 - ((K - 1 : Nat) : Int) = P - K by walk_at "ar"] at hd
    have hS : Sgn ((dg N).take 1 ++ [46] ++ (dg N).drop 1 ++ E) := Sgn.app (Sgn.app (Sgn.app ((Fig.dg N).take _).sgn h46) ((Fig.dg N).drop _).sgn) hT.sgn
    rw [← List.append_assoc ((dg N).take 1)]
    revert hS hd
    generalize fdF (dg N) (P - K) = x
    rw [hc, List.take_succ_cons, List.cons_append, List.cons_append, List.cons_append]
    intro hd hS
    exact ttnF_of hS ⟨by walk_at "ar", hc2⟩ hd
end
open PySem PySem.Spec PySem.Calls PyProof.Rows PySem.W PySem.NumText

theorem Fig.digits {l : List Nat} (h : Fig l) : foldF 10 l = digitsVal l := by
  unfold foldF digitsVal
  have : ∀ (l : List Nat) (a : Nat), Fig l → l.foldl (fun a c => a * 10 + figF c) a = l.foldl (fun acc c => acc * 10 + (c - 48)) a := by
    intro l
    induction l with
    | nil => intro a _; rfl
    | cons c t ih =>
      intro a h
      rw [List.foldl_cons, List.foldl_cons, ih _ (fun c hc => h c (.tail _ hc))]
      have := h c (.head _)
      unfold figF; rw [if_pos this]
  exact this l 0 h
theorem PCall.intD {a : List Nat} {Ψ : Dat → Prop} (h1 : Fig a) (h2 : a ≠ []) (hl : a.length ≤ 640) (h : Ψ (.int (foldF 10 a : Nat))) : PCall (.type "int") [DS a] Ψ := by
  refine PCall.intS (x := ((foldF 10 a : Nat) : Int)) ?_ hl h
  rw [h1.digits]
  have e : (tx a).cps.toList = a := rfl
  have := intText_digits (x := tx a) (by rw [e]; exact h1) (by rw [e]; exact h2) (by rw [tx_length]; walk_at "ar")
  rw [e] at this; exact this

theorem foldF_from (r : Nat) (l : List Nat) (a : Nat) : l.foldl (fun a c => a * r + figF c) a = a * r ^ l.length + foldF r l := by
  unfold foldF
  induction l generalizing a with
  | nil => simp
  | cons c t ih =>
    have e : a * r * r ^ t.length = a * (r ^ t.length * r) := by rw [Nat.mul_assoc, Nat.mul_comm r]
    rw [List.foldl_cons, List.foldl_cons, ih, ih (0 * r + figF c), List.length_cons, Nat.pow_succ, Nat.add_mul, Nat.zero_mul, Nat.zero_add, e, Nat.add_assoc]
theorem foldF_app (A B : List Nat) : foldF 10 (A ++ B) = foldF 10 A * 10 ^ B.length + foldF 10 B := by
  rw [show foldF 10 (A ++ B) = (A ++ B).foldl (fun a c => a * 10 + figF c) 0 from rfl, List.foldl_append, foldF_from]; rfl
theorem Fig.lt {l : List Nat} (h : Fig l) : foldF 10 l < 10 ^ l.length := by
  induction l with
  | nil => decide
  | cons c t ih =>
    have := ih (fun c hc => h c (.tail _ hc))
    have e := foldF_app [c] t
    rw [List.singleton_append] at e
    have hc := figF_fig (h c (.head _))
    have e1 : foldF 10 [c] = figF c := by unfold foldF; simp
    rw [e, e1, List.length_cons, Nat.pow_succ]
    have : figF c * 10 ^ t.length ≤ 9 * 10 ^ t.length := Nat.mul_le_mul_right _ (by walk_at "ar")
    walk_at "ar"
section
variable {N K : Nat} {P : Int}
theorem take_val (N i : Nat) (h : i ≤ (dg N).length) : foldF 10 ((dg N).take i) = N / 10 ^ ((dg N).length - i) ∧ foldF 10 ((dg N).drop i) = N % 10 ^ ((dg N).length - i) := by
  have e := foldF_app ((dg N).take i) ((dg N).drop i)
  rw [List.take_append_drop, foldF_dg, List.length_drop] at e
  have hlt := ((Fig.dg N).drop i).lt
  rw [List.length_drop] at hlt
  generalize 10 ^ ((dg N).length - i) = Z at *
  generalize foldF 10 ((dg N).take i) = q at *
  generalize foldF 10 ((dg N).drop i) = r at *
  subst e
  constructor
  · rw [Nat.mul_comm, Nat.mul_add_div (by walk_at "ar"), Nat.div_eq_of_lt hlt, Nat.add_zero]
  · rw [Nat.mul_comm, Nat.mul_add_mod, Nat.mod_eq_of_lt hlt]
theorem huF_split {I Z : Nat} (hZ : 0 < Z) : huF I Z = I / Z + (if Z ≤ 2 * (I % Z) then 1 else 0) := by
  have h := Nat.div_add_mod I Z
  have hr := Nat.mod_lt I hZ
  unfold huF
  generalize I / Z = q at *
  generalize I % Z = r at *
  rw [show 2 * I + Z = 2 * Z * q + (2 * r + Z) by rw [← h, Nat.mul_assoc]; walk_at "ar", Nat.mul_add_div (by walk_at "ar")]
  congr 1
  split
  · rw [Nat.div_eq_of_lt_le] <;> walk_at "ar"
  · rw [Nat.div_eq_of_lt]; walk_at "ar"
theorem Fig.zero {l : List Nat} (h : Fig l) (h0 : foldF 10 l = 0) : l = Mine.zs l.length := by
  induction l with
  | nil => rfl
  | cons c t ih =>
    have e := foldF_app [c] t
    rw [List.singleton_append] at e
    have e1 : foldF 10 [c] = figF c := by unfold foldF; simp
    rw [e1, h0] at e
    have hc := h c (.head _)
    have hp : 0 < 10 ^ t.length := Nat.pow_pos (by decide)
    have hf : figF c = 0 := by
      apply Decidable.byContradiction; intro hh
      have : 1 * 10 ^ t.length ≤ figF c * 10 ^ t.length := Nat.mul_le_mul_right _ (by walk_at "ar")
      walk_at "ar"
    have hc2 : c = 48 := by unfold figF at hf; rw [if_pos hc] at hf; walk_at "ar"
    rw [List.length_cons, show Mine.zs (t.length + 1) = 48 :: Mine.zs t.length from rfl, ← ih (fun c hc => h c (.tail _ hc)) (by walk_at "ar"), hc2]
/-- what is left of the figures: over a half, and a tie -/
theorem left_half {c : Nat} {l : List Nat} (h : Fig (c :: l)) : (10 ^ (l.length + 1) ≤ 2 * foldF 10 (c :: l) ↔ 53 ≤ c) ∧ (2 * foldF 10 (c :: l) = 10 ^ (l.length + 1) → rstr (c :: l) [48] = [53]) := by
  have e := foldF_app [c] l
  rw [List.singleton_append] at e
  have e1 : foldF 10 [c] = figF c := by unfold foldF; simp
  have hc := h c (.head _)
  have e2 : figF c = c - 48 := by unfold figF; rw [if_pos hc]
  have hl : Fig l := fun c hc => h c (.tail _ hc)
  have hlt := hl.lt
  have hp : 0 < 10 ^ l.length := Nat.pow_pos (by decide)
  rw [e1, e2] at e
  rw [e, Nat.pow_succ]
  have e0 : ∀ k, k * 10 ^ l.length = k * 10 ^ l.length := fun _ => rfl
  constructor
  · constructor
    · intro hh
      apply Decidable.byContradiction; intro hn
      have : (c - 48) * 10 ^ l.length ≤ 4 * 10 ^ l.length := Nat.mul_le_mul_right _ (by walk_at "ar")
      walk_at "ar"
    · intro hh
      have : 5 * 10 ^ l.length ≤ (c - 48) * 10 ^ l.length := Nat.mul_le_mul_right _ (by walk_at "ar")
      walk_at "ar"
  · intro hh
    have h5 : c - 48 = 5 := by
      apply Decidable.byContradiction; intro hn
      rcases Nat.lt_or_gt_of_ne hn with h1 | h1
      · have : (c - 48) * 10 ^ l.length ≤ 4 * 10 ^ l.length := Nat.mul_le_mul_right _ (by walk_at "ar")
        walk_at "ar"
      · have : 6 * 10 ^ l.length ≤ (c - 48) * 10 ^ l.length := Nat.mul_le_mul_right _ (by walk_at "ar")
        walk_at "ar"
    rw [h5] at hh
    have hz := hl.zero (by walk_at "ar")
    have hc5 : c = 53 := by walk_at "ar"
    unfold rstr
    rw [hz, hc5]
    have : ∀ n, ((53 :: zs n).reverse.dropWhile ([48] : List Nat).contains).reverse = [53] := by
      intro n
      rw [List.reverse_cons]
      have hr : (zs n).reverse = zs n := by unfold zs; rw [List.reverse_replicate]
      rw [hr]
      induction n with
      | zero => decide
      | succ n ih =>
        rw [show zs (n + 1) = 48 :: zs n from rfl, List.cons_append, List.dropWhile_cons, if_pos (by decide)]
        exact ih (by unfold zs; rw [List.reverse_replicate])
    exact this _

theorem Dec.number (D : Dec N K P) {many : Nat} (h1 : 1 ≤ many) : 10 ^ (many - 1) ≤ iN N K many / zN K many ∧ iN N K many / zN K many < 10 ^ many := by
  have hk := D.k1
  unfold iN zN
  by_cases h : K ≤ many
  · rw [show K - many = 0 by walk_at "ar", Nat.pow_zero, Nat.div_one]
    constructor
    · have : 10 ^ (K - 1) * 10 ^ (many - K) ≤ N * 10 ^ (many - K) := Nat.mul_le_mul_right _ D.n1
      rw [← Nat.pow_add, show K - 1 + (many - K) = many - 1 by walk_at "ar"] at this; exact this
    · have : N * 10 ^ (many - K) < 10 ^ K * 10 ^ (many - K) := Nat.mul_lt_mul_of_pos_right D.n2 (Nat.pow_pos (by decide))
      rw [← Nat.pow_add, show K + (many - K) = many by walk_at "ar"] at this; exact this
  · rw [show many - K = 0 by walk_at "ar", Nat.pow_zero, Nat.mul_one]
    constructor
    · refine (Nat.le_div_iff_mul_le (Nat.pow_pos (by decide))).mpr ?_
      rw [← Nat.pow_add, show many - 1 + (K - many) = K - 1 by walk_at "ar"]; exact D.n1
    · refine Nat.div_lt_of_lt_mul ?_
      rw [← Nat.pow_add, show K - many + many = K by walk_at "ar"]; exact D.n2
/-- the law's own cut of the figures -/
theorem Dec.cut (D : Dec N K P) {many : Nat} (h1 : 1 ≤ many) :
    (zs (many - (dg (huF (iN N K many) (zN K many))).length) ++ dg (huF (iN N K many) (zN K many))).take many = (cutP N K many).1 ∧
    (if many < (dg (huF (iN N K many) (zN K many))).length then ((dg (huF (iN N K many) (zN K many))).length : Int) - many else 0) = (cutP N K many).2 ∧ ((cutP N K many).1).length = many := by
  obtain ⟨n1, n2⟩ := D.number h1
  have hz : 0 < zN K many := Nat.pow_pos (by decide)
  have hs := huF_split (I := iN N K many) hz
  have l1 : 10 ^ (many - 1) ≤ huF (iN N K many) (zN K many) := by walk_at "ar"
  have l2 : huF (iN N K many) (zN K many) ≤ 10 ^ many := by rw [hs]; split <;> walk_at "ar"
  unfold cutP
  generalize huF (iN N K many) (zN K many) = w at *
  by_cases h : 10 ^ many ≤ w
  · rw [if_pos h]
    have hw : w = 10 ^ many := by walk_at "ar"
    have hl : (dg w).length = many + 1 := dg_len (by walk_at "ar") (by rw [hw, Nat.pow_succ]; have := Nat.pow_pos (n := many) (show 0 < 10 by decide); walk_at "ar")
    have h10 : 10 ≤ w := by rw [hw, show many = (many - 1) + 1 by walk_at "ar", Nat.pow_succ]; have := Nat.pow_pos (n := many - 1) (show 0 < 10 by decide); walk_at "ar"
    have hst := dg_step h10
    have hl2 : (dg (w / 10)).length = many := by
      have := congrArg List.length hst
      rw [List.length_append, hl] at this; simp at this; walk_at "ar"
    refine ⟨?_, ?_, hl2⟩
    · simp only
      rw [hl, show many - (many + 1) = 0 by walk_at "ar", zs_zero, List.nil_append, hst, ← hl2, List.take_left]
    · simp only
      rw [if_pos (by walk_at "ar"), hl]; walk_at "ar"
  · rw [if_neg h]
    have hl : (dg w).length = many := by
      have := dg_len (k := many - 1) l1 (by rw [show many - 1 + 1 = many by walk_at "ar"]; walk_at "ar")
      walk_at "ar"
    refine ⟨?_, ?_, hl⟩
    · simp only
      rw [hl, Nat.sub_self, zs_zero, List.nil_append, List.take_of_length_le (by walk_at "ar")]
    · simp only
      rw [if_neg (by walk_at "ar")]
end
theorem to_precision_zero {j b s : Nat} (many : Nat) (hm : 1 ≤ many ∧ many ≤ 50) (hb : partsF b = (s, 0, -1074)) (hwo : woF b = none) {Ψ : Dat → Prop}
    (h : Ψ (DS (tpF (zs many) 0 many))) : FSpec (j + 4) (Str.ofString "to_precision") [.int b, .int many] Ψ := by
  refine FSpec.of_body (mem_rec (k := 43) rfl ⟨rfl, rfl, rfl⟩) (by walk_at "bind") (by decide +kernel) ?_
  change PS _ _ _ [(Str.ofString "many", .int many), (Str.ofString "bits", .int b)] _ _
  have e0 : lt "0" = [48] := by decide +kernel
  have ep : lt "." = [46] := by decide +kernel
  repeat' walk_at "ps"
  refine without_figures_spec b ?_
  rw [hwo]
  simp only [optD]
  repeat' walk_at "pe"
  refine sign_and_ratio_spec b s 0 (-1074) hb (by decide) ?_
  rw [Nat.zero_mul, show sgF s 0 = [] by unfold sgF; rw [if_neg (fun hh => hh.2 rfl)]]
  generalize 2 ^ (-(-1074 : Int)).toNat = d
  repeat' walk_at "pe"
  refine ite_dec (fun hh => absurd hh (by decide)) fun _ => ?_
  repeat' walk_at "pe"
  rw [e0]
  refine PBin.zeros (by walk_at "ar") (by walk_at "ar") ?_
  have hz := zs_len many
  rw [show ((many : Nat) : Int).toNat = many by walk_at "ar"]
  generalize zs many = f at *
  unfold tpF at h
  have hw := weF_len (f := f) (e := 0) (by walk_at "ar") (by decide +kernel)
  rw [if_neg (by walk_at "ar")] at h
  repeat' walk_at "ps"
  refine PS.seq ?_
  refine PS1.ite (PT.mono (Ψ := fun z => z = false) ?_ ?_)
  · repeat' first | walk_at "pe" | refine ite_dec (fun hh => absurd hh (by walk_at "ar")) fun _ => ?_
    all_goals rfl
  rintro _ rfl
  repeat' walk_at "pe"
  by_cases h1 : many = 1
  · subst h1
    rw [if_pos (by decide)] at h
    refine ite_eqN (fun _ => ?_) fun hh => absurd rfl hh
    repeat' walk_at "pe"
    exact h
  · rw [if_neg (by walk_at "ar"), if_pos (by decide)] at h
    refine ite_eqN (fun hh => absurd hh (by walk_at "ar")) fun _ => ?_
    repeat' walk_at "pe"
    refine ite_dec (fun _ => ?_) fun hh => absurd (Nat.zero_le _) hh
    have h : Ψ (DS (f.take 1 ++ [46] ++ f.drop 1)) := h
    repeat' first | walk_at "pe" | rw [ep]
    exact h
theorem law_minus_spec {k : Nat} {Ψ : Dat → Prop} (h : Ψ (.int ((2 ^ 63 : Nat) : Int))) : FSpec (k + 1) (Str.ofString "_law_minus") [] Ψ := by
  refine FSpec.of_body (mem_rec (k := 66) rfl ⟨rfl, rfl, rfl⟩) (by walk_at "bind") (by decide +kernel) ?_
  change PS _ _ _ [] _ _
  repeat' walk_at "pe"
  exact h
theorem lpF_len {f : List Nat} {p : Int} (h1 : f.length ≤ 100) (h2 : -200 ≤ p ∧ p ≤ 200) : (zs (1 - p).toNat ++ f ++ zs (p - f.length).toNat).length ≤ 700 := by
  simp only [List.length_append, zs_len]; omega
theorem law_pointed_spec {k : Nat} (f : List Nat) (p : Int) (hf : f.length ≤ 100) (hp : -200 ≤ p ∧ p ≤ 200) {Ψ : Dat → Prop} (h : Ψ (DS (lpF f p))) : FSpec (k + 1) (Str.ofString "_law_pointed") [DS f, .int p] Ψ := by
  refine FSpec.of_body (mem_rec (k := 68) rfl ⟨rfl, rfl, rfl⟩) (by walk_at "bind") (by decide +kernel) ?_
  change PS _ _ _ [(Str.ofString "point", .int p), (Str.ofString "figures", DS f)] _ _
  have e0 : lt "0" = [48] := by decide +kernel
  have ep : lt "." = [46] := by decide +kernel
  have en : lt "" = [] := by decide +kernel
  have hl := lpF_len hf hp
  have z1 := zs_len (1 - p).toNat
  have z2 := zs_len (p - f.length).toNat
  repeat' walk_at "st"
  refine PS.seq ?_
  repeat' walk_at "st"
  rw [e0]
  refine PBin.zeros (by walk_at "ar") (by walk_at "ar") ?_
  rw [show (((1 : Nat) : Int) - p).toNat = (1 - p).toNat by walk_at "ar"]
  repeat' walk_at "st"
  rw [e0]
  refine PBin.zeros (by walk_at "ar") (by walk_at "ar") ?_
  repeat' walk_at "st"
  unfold lpF at h
  simp only at h
  generalize zs (1 - p).toNat ++ f ++ zs (p - f.length).toNat = t at *
  clear z1 z2
  refine Then.next ?_
  refine PS.seq ?_
  walk_at "as"
  repeat' walk_at "st"
  have em : (if ((1 : Nat) : Int) > p then ((1 : Nat) : Int) else p) = ((max p 1).toNat : Int) := by split <;> walk_at "ar"
  rw [em]
  generalize (max p 1).toNat = q at *
  refine Then.next ?_
  refine PS.seq ?_
  repeat' walk_at "st"
  refine ite_dec (fun h1 => ?_) fun h1 => ?_
  · rw [if_pos h1] at h
    have v1 : ([46] : List Nat).length + (t.drop q).length ≤ 16777216 := by rw [List.length_drop]; simp only [List.length_cons, List.length_nil]; exact Nat.le_trans (Nat.add_le_add_left (Nat.sub_le _ _) _) (by walk_at "ar")
    have v2 : (t.take q).length + ([46] ++ t.drop q).length ≤ 16777216 := by
      simp only [List.length_append, List.length_take, List.length_drop, List.length_cons, List.length_nil]; rw [ltn]; walk_at "ar"
    repeat' first | walk_at "pe" | rw [ep]
    exact h
  · rw [if_neg h1] at h
    have v3 : (t.take q).length + ([] : List Nat).length ≤ 16777216 := by rw [List.length_take]; exact Nat.le_trans (Nat.min_le_right _ _) (by walk_at "ar")
    repeat' first | walk_at "pe" | rw [en]
    exact h
theorem take_one {f : List Nat} (h : 1 ≤ f.length) : [f.getD 0 0] = f.take 1 := by
  cases f with
  | nil => simp at h
  | cons c t => rfl
theorem law_powered_spec {k : Nat} (f : List Nat) (p : Int) (hf0 : 1 ≤ f.length) (hf : f.length ≤ 100) (hp : -200 ≤ p ∧ p ≤ 200) {Ψ : Dat → Prop} (h : Ψ (DS (lqF f p))) : FSpec (k + 1) (Str.ofString "_law_powered") [DS f, .int p] Ψ := by
  refine FSpec.of_body (mem_rec (k := 69) rfl ⟨rfl, rfl, rfl⟩) (by walk_at "bind") (by decide +kernel) ?_
  change PS _ _ _ [(Str.ofString "point", .int p), (Str.ofString "figures", DS f)] _ _
  have ep : lt "." = [46] := by decide +kernel
  have en : lt "" = [] := by decide +kernel
  have ee : lt "e" = [101] := by decide +kernel
  have em : lt "-" = [45] := by decide +kernel
  have epl : lt "+" = [43] := by decide +kernel
  have hs : (p - 1).natAbs < 2 ^ 1900 := Nat.lt_of_le_of_lt (show (p - 1).natAbs ≤ 1000 by walk_at "ar") (Nat.lt_of_lt_of_le (show 1000 < 2 ^ 10 by decide) (Nat.pow_le_pow_right (by decide) (by decide)))
  have hl := dg_short hs
  have ht := take_one hf0
  unfold lqF at h
  refine PS.seq ?_
  walk_at "as"
  refine PE.mono (Ψ := fun x => x = DS (if 1 < f.length then [46] ++ f.drop 1 else [])) ?_ ?_
  · repeat' walk_at "st"
    refine ite_dec (fun h1 => ?_) fun h1 => ?_
    · have hd : ([46] : List Nat).length + (f.drop 1).length ≤ 16777216 := by rw [List.length_drop]; simp only [List.length_cons, List.length_nil]; walk_at "ar"
      repeat' first | walk_at "st" | rw [ep]
      rw [if_pos h1]
    · repeat' walk_at "st"
      rw [if_neg h1, en]
  rintro _ rfl
  have hmore : (if 1 < f.length then [46] ++ f.drop 1 else []).length ≤ 200 := by
    split
    · simp only [List.length_append, List.length_cons, List.length_nil, List.length_drop]; walk_at "ar"
    · exact Nat.zero_le _
  generalize (if 1 < f.length then [46] ++ f.drop 1 else []) = more at *
  have e1 : p - ((1 : Nat) : Int) = p - 1 := rfl
  have q1 : (f.take 1 ++ more).length ≤ 300 := by rw [List.length_append, List.length_take]; walk_at "ar"
  have q2 : (f.take 1).length + more.length ≤ 16777216 := by rw [List.length_take]; walk_at "ar"
  have q3 : (f.take 1 ++ more).length + ([101] : List Nat).length ≤ 16777216 := by simp only [List.length_cons, List.length_nil]; walk_at "ar"
  have q4 : ∀ c : Nat, (f.take 1 ++ more ++ [101]).length + ([c] : List Nat).length ≤ 16777216 := fun c => by rw [List.length_append]; simp only [List.length_cons, List.length_nil]; walk_at "ar"
  have q5 : ∀ c : Nat, (f.take 1 ++ more ++ [101] ++ [c]).length + (dg (p - 1).natAbs).length ≤ 16777216 := fun c => by rw [List.length_append, List.length_append]; simp only [List.length_cons, List.length_nil]; walk_at "ar"
  have q43 := q4 43
  have q45 := q4 45
  have q53 := q5 43
  have q55 := q5 45
  repeat' first | walk_at "pe" | rw [ht] | rw [ee]
  refine ite_dec (fun h1 => ?_) fun h1 => ?_
  · rw [if_pos (by simpa using h1)] at h
    repeat' first | walk_at "pe" | rw [epl] | rw [e1]
    exact h
  · rw [if_neg (by simpa using h1)] at h
    repeat' first | walk_at "pe" | rw [em] | rw [e1]
    exact h
theorem law_cut_spec {k : Nat} (N K many : Nat) (P : Int) (D : Dec N K P) (h1 : 1 ≤ many) (h2 : many ≤ 15) {Ψ : Dat → Prop} (h0 : Ψ .none) (h : 2 * (iN N K many % zN K many) ≠ zN K many → Ψ (.tuple [DS (cutP N K many).1, .int (cutP N K many).2])) :
    FSpec (k + 1) (Str.ofString "_law_cut") [DS (dg N), .int many] Ψ := by
  refine FSpec.of_body (mem_rec (k := 70) rfl ⟨rfl, rfl, rfl⟩) (by walk_at "bind") (by decide +kernel) ?_
  change PS _ _ _ [(Str.ofString "many", .int many), (Str.ofString "figures", DS (dg N))] _ _
  have e0 : lt "0" = [48] := by decide +kernel
  have e5 : lt "5" = [53] := by decide +kernel
  have en : lt "" = [] := by decide +kernel
  have e59 : lt "56789" = [53, 54, 55, 56, 57] := by decide +kernel
  have hlen := D.len
  have hk1 := D.k1
  have hk2 := D.k2
  have z1 := zs_len (many - K)
  refine PS.seq ?_
  walk_at "as"
  repeat' walk_at "st"
  rw [e0]
  refine PBin.zeros (by walk_at "ar") (by walk_at "ar") ?_
  rw [hlen, Int.toNat_sub many K]
  repeat' walk_at "st"
  refine Then.next ?_
  -- the figures kept and left
  have hF : Fig (dg N ++ zs (many - K)) := (Fig.dg N).app (Fig.zs _)
  have hlF : (dg N ++ zs (many - K)).length = K + (many - K) := by rw [List.length_append, z1, hlen]
  have hkept : foldF 10 ((dg N ++ zs (many - K)).take many) = iN N K many / zN K many := by
    unfold iN zN
    by_cases hm : K ≤ many
    · rw [List.take_of_length_le (by walk_at "ar"), foldF_zs, foldF_dg, show K - many = 0 by walk_at "ar", Nat.pow_zero, Nat.div_one]
    · rw [show many - K = 0 by walk_at "ar", zs_zero, List.append_nil, (take_val N many (by walk_at "ar")).1, hlen, Nat.pow_zero, Nat.mul_one]
  have hleft : (K ≤ many → (dg N ++ zs (many - K)).drop many = []) ∧ (many < K → foldF 10 ((dg N ++ zs (many - K)).drop many) = iN N K many % zN K many ∧ ((dg N ++ zs (many - K)).drop many).length = K - many) := by
    unfold iN zN
    constructor
    · intro hm; exact List.drop_eq_nil_of_le (by walk_at "ar")
    · intro hm
      rw [show many - K = 0 by walk_at "ar", zs_zero, List.append_nil, (take_val N many (by walk_at "ar")).2, hlen, Nat.pow_zero, Nat.mul_one, List.length_drop, hlen]
      exact ⟨rfl, rfl⟩
  have fk := hF.take many
  have fl := hF.drop many
  have lk : ((dg N ++ zs (many - K)).take many).length ≤ 100 := by rw [List.length_take]; walk_at "ar"
  have ll : ((dg N ++ zs (many - K)).drop many).length ≤ 100 := by rw [List.length_drop]; walk_at "ar"
  have lF : (dg N ++ zs (many - K)).length ≤ 100 := by walk_at "ar"
  have hzn : K ≤ many → zN K many = 1 := fun hm => by unfold zN; rw [show K - many = 0 by walk_at "ar", Nat.pow_zero]
  have hzn2 : zN K many = 10 ^ (K - many) := rfl
  have hzp : 0 < zN K many := Nat.pow_pos (by decide)
  have hsp := huF_split (I := iN N K many) hzp
  obtain ⟨c1, c2, c3⟩ := D.cut h1
  have hnum := (D.number h1).2
  have hw19 : huF (iN N K many) (zN K many) < 2 ^ 1900 := by
    have : huF (iN N K many) (zN K many) ≤ 10 ^ many := by rw [hsp]; split <;> walk_at "ar"
    have h15 : 10 ^ many ≤ 10 ^ 15 := Nat.pow_le_pow_right (by decide) h2
    have e15 : 10 ^ 15 < 2 ^ 60 := by decide
    exact Nat.lt_trans (Nat.lt_of_le_of_lt (Nat.le_trans this h15) e15) (Nat.pow_lt_pow_right (by decide) (by decide))
  have hwl := dg_short hw19
  clear z1 hlF
  refine PS.seq ?_
  repeat' walk_at "st"
  refine Then.next ?_
  generalize (dg N ++ zs (many - K)).take many = kept at *
  generalize (dg N ++ zs (many - K)).drop many = left at *
  clear lF
  -- what is left, over a half or a tie
  have hr0 : K ≤ many → iN N K many % zN K many = 0 := fun hm => by rw [hzn hm]; walk_at "ar"
  generalize iN N K many % zN K many = r at *
  have tie : rstr left [48] ≠ [53] → 2 * r ≠ zN K many := by
    intro hn
    by_cases hm : K ≤ many
    · rw [hzn hm, hr0 hm]; walk_at "ar"
    · obtain ⟨v1, v2⟩ := hleft.2 (by walk_at "ar")
      cases left with
      | nil => simp at v2; walk_at "ar"
      | cons c l =>
        have := (left_half fl).2
        rw [v1, List.length_cons] at *
        rw [hzn2, ← v2]
        exact fun hh => hn (this hh)
  have over : (left ≠ [] ∧ 53 ≤ left.headD 0) ↔ zN K many ≤ 2 * r := by
    by_cases hm : K ≤ many
    · rw [hleft.1 hm, hzn hm, hr0 hm]; simp
    · obtain ⟨v1, v2⟩ := hleft.2 (by walk_at "ar")
      cases left with
      | nil => simp at v2; walk_at "ar"
      | cons c l =>
        have := (left_half fl).1
        rw [v1, List.length_cons] at *
        rw [hzn2, ← v2, this]
        simp
  refine PS.seq ?_
  repeat' walk_at "pe"
  rw [e0, e5]
  refine ite_eqS (fun hc => ?_) fun hc => ?_
  · repeat' walk_at "pe"
    exact h0
  have h := h (tie hc)
  clear tie hleft h0
  refine PS.nil ?_
  refine Then.next ?_
  refine PS.seq ?_
  walk_at "as"
  repeat' first | walk_at "st" | rw [e0]
  refine PCall.intD (Fig.app (fun c hc => by simp at hc; walk_at "ar") fk) (by simp) (by rw [List.length_append]; simp only [List.length_cons, List.length_nil]; walk_at "ar") ?_
  rw [show foldF 10 ([48] ++ kept) = foldF 10 kept by rw [foldF_app]; simp [foldF, figF], hkept]
  refine' PE.callT ?n1 ?n2 ?n3 ?n4 ?n5
  case n3 => exact Pv.boot_int
  case n1 => decide +kernel
  case n2 => decide +kernel
  case n4 => rfl
  refine PEs.cons ?n6 ?n7
  case n7 => rfl
  refine PE.mono (Ψ := fun x => x = .bool (decide (left ≠ [] ∧ 53 ≤ left.headD 0))) ?_ ?_
  · cases left with
    | nil =>
      repeat' walk_at "st"
      refine PCmp.inS ?_
      refine ⟨_, rfl, ?_⟩
      refine ite_b (fun _ => ?_) fun _ => ?_
      · repeat' walk_at "st"
        rw [en]; rfl
      · rfl
    | cons c l =>
      have hc1 := fl c (.head _)
      repeat' walk_at "st"
      rw [e59]
      refine PCmp.in1 ?_
      refine ⟨_, rfl, ?_⟩
      refine ite_dec (fun hc2 => ?_) fun hc2 => ?_
      · have : 53 ≤ c := by simp at hc2; walk_at "ar"
        repeat' walk_at "st"
        rw [en]
        simp [this]
      · have : ¬ 53 ≤ c := by intro hh; apply hc2; simp; walk_at "ar"
        simp [this]
  rintro _ rfl
  repeat' walk_at "st"
  have esum : (((iN N K many / zN K many : Nat) : Int) + (if decide (left ≠ [] ∧ 53 ≤ left.headD 0) = true then 1 else 0)) = ((huF (iN N K many) (zN K many) : Nat) : Int) := by
    rw [hsp]
    by_cases ho : left ≠ [] ∧ 53 ≤ left.headD 0
    · rw [if_pos (decide_eq_true ho), if_pos (over.mp ho)]; walk_at "ar"
    · rw [if_neg (by rw [decide_eq_false ho]; decide), if_neg (fun hh => ho (over.mpr hh))]; walk_at "ar"
  rw [esum]
  clear esum over hkept hnum hsp
  generalize huF (iN N K many) (zN K many) = w at *
  refine Then.next ?_
  repeat' walk_at "ps"
  rw [e0]
  refine PBin.zeros (by walk_at "ar") (by walk_at "ar") ?_
  rw [Int.toNat_sub many (dg w).length]
  have z2 := zs_len (many - (dg w).length)
  have em : (if ((1 : Nat) : Int) > (many : Int) then ((1 : Nat) : Int) else (many : Int)) = (many : Int) := by split <;> walk_at "ar"
  repeat' walk_at "st"
  rw [em]
  repeat' walk_at "st"
  rw [c1]
  refine ite_dec (fun hm => ?_) fun hm => ?_
  · rw [if_pos hm] at c2
    repeat' walk_at "pe"
    rw [show ((((dg w).length - many : Nat) : Int)) = (cutP N K many).2 by walk_at "ar"]
    exact h
  · rw [if_neg hm] at c2
    repeat' walk_at "pe"
    rw [show (((0 : Nat) : Int)) = (cutP N K many).2 by walk_at "ar"]
    exact h

/-- a whole number as the law tells it -/
noncomputable def lwF (x : Int) : Nat := if x = 0 then 0 else (if x < 0 then 2 ^ 63 else 0) + (bl x.natAbs - 1 + 1022 + 1 - 1) * 2 ^ 52 + x.natAbs * 2 ^ (52 - (bl x.natAbs - 1))
theorem law_whole_spec {k : Nat} (x : Int) (hx : x.natAbs < 2 ^ 40) {Ψ : Dat → Prop} (h : Ψ (.int (lwF x : Nat))) : FSpec (k + 2) (Str.ofString "_law_whole") [.int x] Ψ := by
  refine FSpec.of_body (mem_rec (k := 67) rfl ⟨rfl, rfl, rfl⟩) (by walk_at "bind") (by decide +kernel) ?_
  change PS _ _ _ [(Str.ofString "number", .int x)] _ _
  unfold lwF at h
  repeat' walk_at "pe"
  refine ite_eqI (fun hc => ?_) fun hc => ?_
  · have hc : x = 0 := hc
    rw [if_pos hc] at h
    repeat' walk_at "pe"
    exact h
  have hc : x ≠ 0 := hc
  rw [if_neg hc] at h
  repeat' walk_at "ps"
  have hs0 : 0 < x.natAbs := by walk_at "ar"
  generalize hsz : x.natAbs = s at *
  have hbl := bl_le_of_lt hx
  have hbp : 0 < bl s := by unfold bl; rw [if_neg (by walk_at "ar")]; walk_at "ar"
  have bll := bl_le (n := s) (by walk_at "ar")
  have blh := bl_lt s
  have sS : Sm s := Sm_le hx (by decide)
  refine PS.seq ?_
  refine PS1.loop (fun k ω ρ => ω = none ∧ k ≤ bl s - 1 ∧ ρ.lookup (Str.ofString "number") = some (.int x) ∧ ρ.lookup (Str.ofString "size") = some (.int s) ∧ ρ.lookup (Str.ofString "up") = some (.int (bl s - 1 - k : Nat))) (bl s - 1) ?_ ?_
  · refine ⟨rfl, Nat.le_refl _, ?_, ?_, ?_⟩
    · walk_at "lk"
    · walk_at "lk"
    · rw [Nat.sub_self]; walk_at "lk"
  · rintro k' ω ρ ⟨rfl, hk, w1, w2, w3⟩
    repeat' walk_at "pe"
    refine ite_dec (fun h1 => ?_) fun h1 => ?_
    · repeat' walk_at "pe"
      have hk0 : 0 < k' := by
        apply Decidable.byContradiction; intro hh
        have : k' = 0 := by walk_at "ar"
        subst this
        rw [Nat.sub_zero, show bl s - 1 + 1 = bl s by walk_at "ar", Nat.div_eq_of_lt blh] at h1
        exact absurd h1 (by decide)
      refine Turn.next (k' - 1) (by walk_at "ar") ?_
      refine ⟨rfl, by walk_at "ar", ?_, ?_, ?_⟩
      · walk_at "lk"
      · walk_at "lk"
      · rw [show bl s - 1 - (k' - 1) = bl s - 1 - k' + 1 by walk_at "ar"]; walk_at "lk"
    · have hk0 : k' = 0 := by
        apply Decidable.byContradiction; intro hh
        apply h1
        refine Nat.div_pos (Nat.le_trans (Nat.pow_le_pow_right (by decide) (by walk_at "ar")) bll) (Nat.two_pow_pos _)
      subst hk0
      rw [Nat.sub_zero] at w3
      have hup : bl s - 1 ≤ 52 := by walk_at "ar"
      have s1 : Sm (2 ^ 52) := show _ < _ by decide +kernel
      have s2 : Sm (bl s - 1 + 1022) := Sm_le (k := 20) (by have : (2 : Nat) ^ 20 = 1048576 := by decide
                                                            walk_at "ar") (by decide)
      have s3 : Sm (2 ^ (52 - (bl s - 1))) := Sm_le (k := 60) (Nat.pow_lt_pow_right (by decide) (by walk_at "ar")) (by decide)
      rw [Nat.add_sub_cancel] at h
      repeat' walk_at "pe"
      refine ite_dec (fun h2 => ?_) fun h2 => ?_
      · rw [if_pos (by simpa using h2)] at h
        repeat' walk_at "pe"
        refine law_minus_spec ?_
        repeat' walk_at "pe"
        exact h
      · rw [if_neg (by simpa using h2)] at h
        repeat' walk_at "pe"
        exact h
theorem lp_len {f : List Nat} {p : Int} (hf : f.length ≤ 15) (hp : -40 ≤ p ∧ p ≤ 40) : (lpF f p).length ≤ 190 := by
  unfold lpF
  have h1 : (1 - p).toNat ≤ 41 := by walk_at "ar"
  have h2 : (p - (f.length : Int)).toNat ≤ 40 := by walk_at "ar"
  simp only [List.length_append, List.length_take, zs_len]
  generalize (1 - p).toNat = x, (p - (f.length : Int)).toNat = y at *
  split
  · simp only [List.length_append, List.length_drop, List.length_cons, List.length_nil, zs_len]; rw [ltn]; walk_at "ar"
  · exact Nat.le_trans (Nat.min_le_right _ _) (by walk_at "ar")
theorem lq_len {f : List Nat} {p : Int} (hf : f.length ≤ 15) (hp : -40 ≤ p ∧ p ≤ 40) : (lqF f p).length ≤ 190 := by
  have : (dg (p - 1).natAbs).length ≤ 4 := dg_le (by decide) (by walk_at "ar")
  unfold lqF
  simp only [List.length_append, List.length_take]
  split <;> split <;> simp only [List.length_append, List.length_drop, List.length_cons, List.length_nil] <;> walk_at "ar"
theorem law_shows_spec {k : Nat} (N K : Nat) (P : Int) (D : Dec N K P) {Ψ : Dat → Prop} (h : Ψ (.bool true)) : FSpec (k + 7) (Str.ofString "_law_shows") [DS (dg N), .int P] Ψ := by
  refine FSpec.of_body (mem_rec (k := 71) rfl ⟨rfl, rfl, rfl⟩) (by walk_at "bind") (by decide +kernel) ?_
  change PS _ _ _ [(Str.ofString "point", .int P), (Str.ofString "figures", DS (dg N))] _ _
  have e1 : lt "-" = [45] := by decide +kernel
  have hlen := D.len
  have hk1 := D.k1
  have hk2 := D.k2
  have hp1 := D.p1
  have hp2 := D.p2
  obtain ⟨m, e, B⟩ := D.dbl
  obtain ⟨n, hn, hlow, F0, F1⟩ := B.fl
  repeat' walk_at "ps"
  refine from_decimal_spec (dg N) _ (by walk_at "ar") ?_
  rw [hlen]
  have hread1 := D.read_lp
  have hread2 := D.read_lq
  generalize fdF (dg N) (P - (K : Int)) = b at *
  have lo := loF_eq (f := dg N) (p := P) (by walk_at "ar")
  have l1 := lp_len (f := dg N) (p := P) (by walk_at "ar") (by walk_at "ar")
  have l2 := lq_len (f := dg N) (p := P) (by walk_at "ar") (by walk_at "ar")
  have lw := weF_eq (dg N) P
  refine Then.next ?_
  refine PS.seq ?_
  walk_at "as"
  refine PE.mono (Ψ := fun x => x = DS (loF (dg N) P)) ?_ ?_
  · rw [lo]
    refine PE.ifexp ?_
    refine PT.mono (Ψ := fun x => x = decide (-6 < P ∧ P ≤ 21)) ?_ ?_
    · repeat' first | walk_at "pe" | refine ite_dec (fun _ => ?_) fun _ => ?_
      · exact decide_eq_decide.mpr (by walk_at "ar")
      · symm; apply decide_eq_false; walk_at "ar"
    rintro _ rfl
    refine ite_dec (fun hc => ?_) fun hc => ?_
    · rw [if_pos hc]
      repeat' walk_at "st"
      refine law_pointed_spec (dg N) P (by walk_at "ar") (by walk_at "ar") ?_
      rfl
    · rw [if_neg hc]
      repeat' walk_at "st"
      refine law_powered_spec (dg N) P (by walk_at "ar") (by walk_at "ar") (by walk_at "ar") ?_
      rfl
  rintro _ rfl
  have ld : (loF (dg N) P).length ≤ 190 := by rw [lo]; split <;> assumption
  have hread : ttnF (loF (dg N) P) = b := by rw [lo]; split <;> assumption
  clear lo hread1 hread2 l1
  refine Then.next ?_
  refine PS.seq ?_
  refine PS1.ite (PT.mono (Ψ := fun x => x = false) ?_ ?_)
  · repeat' walk_at "pe"
    refine show_spec F0 ?_
    rw [show minusF 0 = [] from rfl, List.nil_append]
    repeat' walk_at "pe"
    refine ite_neS (fun hh => absurd rfl hh) fun _ => ?_
    repeat' walk_at "pe"
    refine law_minus_spec ?_
    repeat' walk_at "pe"
    refine show_spec F1 ?_
    rw [show minusF 1 = [45] from rfl]
    repeat' walk_at "pe"
    rw [e1]
    repeat' walk_at "pe"
    refine ite_neS (fun hh => absurd rfl hh) fun _ => ?_
    repeat' walk_at "pe"
    rfl
  rintro _ rfl
  repeat' walk_at "pe"
  refine to_exponential_none F0 ?_
  rw [show minusF 0 = [] from rfl, List.nil_append, lw]
  repeat' walk_at "pe"
  refine law_powered_spec (dg N) P (by walk_at "ar") (by walk_at "ar") (by walk_at "ar") ?_
  repeat' walk_at "pe"
  refine ite_eqS (fun _ => ?_) fun hh => absurd rfl hh
  repeat' walk_at "pe"
  refine text_to_number_spec _ (by walk_at "ar") ?_
  rw [hread]
  repeat' walk_at "pe"
  rw [beq_self_eq_true]; exact h

theorem cutP_exp (N K many : Nat) : 0 ≤ (cutP N K many).2 ∧ (cutP N K many).2 ≤ 1 := by unfold cutP; split <;> simp only <;> walk_at "ar"
theorem law_rounds_spec {k : Nat} (N K many : Nat) (P : Int) (D : Dec N K P) (h1 : 1 ≤ many) (h2 : many ≤ 15) {Ψ : Dat → Prop} (h : Ψ (.bool true)) : FSpec (k + 7) (Str.ofString "_law_rounds") [DS (dg N), .int P, .int many] Ψ := by
  refine FSpec.of_body (mem_rec (k := 72) rfl ⟨rfl, rfl, rfl⟩) (by walk_at "bind") (by decide +kernel) ?_
  change PS _ _ _ [(Str.ofString "many", .int many), (Str.ofString "point", .int P), (Str.ofString "figures", DS (dg N))] _ _
  have hlen := D.len
  have hk1 := D.k1
  have hk2 := D.k2
  have hp1 := D.p1
  have hp2 := D.p2
  obtain ⟨m, e, B⟩ := D.dbl
  obtain ⟨n, hn, hlow, F0, F1⟩ := B.fl
  have hrd := fun hne => B.rd hn hlow h1 h2 hne
  obtain ⟨_, _, c3⟩ := D.cut h1
  have c4 := cutP_exp N K many
  repeat' walk_at "ps"
  refine from_decimal_spec (dg N) _ (by walk_at "ar") ?_
  rw [hlen]
  generalize fdF (dg N) (P - (K : Int)) = b at *
  repeat' walk_at "st"
  refine law_cut_spec N K many P D h1 h2 ?_ ?_
  · repeat' walk_at "pe"
    exact h
  intro hne
  have hrd := hrd hne
  generalize cutP N K many = q at *
  obtain ⟨f, z⟩ := q
  simp only at hrd c3 c4 ⊢
  have lw := weF_eq f (P + z)
  have lt' := tpF_eq (f := f) (p := P + z) h1 c3
  have hx : P + z - 1 = P - 1 + z := by walk_at "ar"
  rw [hx] at lw lt'
  repeat' walk_at "pe"
  refine to_exponential_spec (many - 1) (by walk_at "ar") F0 ?_
  rw [show many - 1 + 1 = many by walk_at "ar", hrd, show minusF 0 = [] from rfl, List.nil_append]
  simp only
  rw [lw]
  repeat' walk_at "pe"
  refine law_powered_spec f (P + z) (by walk_at "ar") (by walk_at "ar") (by walk_at "ar") ?_
  repeat' walk_at "pe"
  refine ite_neS (fun hh => absurd rfl hh) fun _ => ?_
  refine PS.nil ?_
  refine Then.next ?_
  refine PS.seq ?_
  walk_at "as"
  refine PE.mono (Ψ := fun x => x = .bool (decide (-6 < P + z ∧ P + z ≤ many))) ?_ ?_
  · repeat' first | walk_at "pe" | refine ite_dec (fun _ => ?_) fun _ => ?_
    · congr 1; exact decide_eq_decide.mpr (by walk_at "ar")
    · congr 1; symm; apply decide_eq_false; walk_at "ar"
  rintro _ rfl
  repeat' walk_at "pe"
  refine to_precision_spec many ⟨h1, by walk_at "ar"⟩ F0 ?_
  rw [hrd, show minusF 0 = [] from rfl, List.nil_append]
  simp only
  rw [lt']
  repeat' walk_at "pe"
  refine ite_dec (fun hc => ?_) fun hc => ?_
  · rw [if_pos hc]
    repeat' walk_at "pe"
    refine law_pointed_spec f (P + z) (by walk_at "ar") (by walk_at "ar") ?_
    repeat' walk_at "pe"
    rw [beq_self_eq_true]; exact h
  · rw [if_neg hc]
    repeat' walk_at "pe"
    refine law_powered_spec f (P + z) (by walk_at "ar") (by walk_at "ar") (by walk_at "ar") ?_
    repeat' walk_at "pe"
    rw [beq_self_eq_true]; exact h
noncomputable def dueF (w mm : Nat) : List Nat :=
  let g := zs (mm + 1 - (dg w).length) ++ dg w
  g.take (g.length - mm) ++ (if 0 < mm then [46] ++ g.drop (g.length - mm) else [])
theorem tf_due (sg : List Nat) (t d mm : Nat) : tfF sg t d mm = sg ++ dueF (huF (t * 10 ^ mm) d) mm := by
  unfold tfF dueF
  simp only
  by_cases h : mm = 0
  · subst h
    have := dg_pos (huF (t * 10 ^ 0) d)
    rw [if_pos rfl, if_neg (by decide), List.append_nil, Nat.sub_zero, List.take_length, show 0 + 1 - (dg (huF (t * 10 ^ 0) d)).length = 0 by walk_at "ar", zs_zero, List.nil_append]
  · rw [if_neg h, if_pos (by walk_at "ar")]; simp only [List.append_assoc]
theorem Dbl.fixed {b N K m : Nat} {P e : Int} (B : Dbl b N K P m e) {n : Int} (hn : n = P ∨ n = P - 1) (h1 : LT10 (m * 2 ^ e.toNat) (2 ^ (-e).toNat) n) (h : P ≤ 21) : m * 2 ^ e.toNat < 2 ^ (-e).toNat * 10 ^ 21 := by
  have := h1.mono (m := 21) (by walk_at "ar")
  unfold LT10 at this
  simpa using this
theorem Dbl.big {N K m : Nat} {P e : Int} (B : Dbl (fdF (dg N) (P - K)) N K P m e) {n : Int} (hn : n = P ∨ n = P - 1) (hlow : n = P - 1 → LT10 (m * 2 ^ e.toNat) (2 ^ (-e).toNat) (P - 1)) (h1 : ¬ LT10 (m * 2 ^ e.toNat) (2 ^ (-e).toNat) (n - 1)) (h : 21 < P) : 2 ^ (-e).toNat * 10 ^ 21 ≤ m * 2 ^ e.toNat := by
  have key : ¬ LT10 (m * 2 ^ e.toNat) (2 ^ (-e).toNat) 21 := by
    by_cases hc : 21 ≤ n - 1
    · exact fun hh => h1 (hh.mono hc)
    · have hn' : n = P - 1 := by walk_at "ar"
      have hP : P = 22 := by walk_at "ar"
      obtain ⟨rfl, rfl⟩ := B.one (hlow hn')
      subst hP
      have hp := B.parts
      have : partsF (fdF (dg 1) (22 - ((1 : Nat) : Int))) = (0, 7629394531250000, 17) := by decide +kernel
      rw [this] at hp
      have e1 := (Prod.mk.inj hp).2
      obtain ⟨rfl, rfl⟩ := Prod.mk.inj e1
      unfold LT10
      decide +kernel
  unfold LT10 at key
  have key := Nat.le_of_not_lt key
  simpa using key
theorem law_fixes_spec {k : Nat} (N K many : Nat) (P : Int) (D : Dec N K P) (hmany : many ≤ 50) {Ψ : Dat → Prop} (h : Ψ (.bool true)) : FSpec (k + 7) (Str.ofString "_law_fixes") [DS (dg N), .int P, .int many] Ψ := by
  refine FSpec.of_body (mem_rec (k := 73) rfl ⟨rfl, rfl, rfl⟩) (by walk_at "bind") (by decide +kernel) ?_
  change PS _ _ _ [(Str.ofString "many", .int many), (Str.ofString "point", .int P), (Str.ofString "figures", DS (dg N))] _ _
  have e0 : lt "0" = [48] := by decide +kernel
  have em : lt "-" = [45] := by decide +kernel
  have en : lt "" = [] := by decide +kernel
  have ep : lt "." = [46] := by decide +kernel
  have hlen := D.len
  have hk1 := D.k1
  have hk2 := D.k2
  have hp1 := D.p1
  have hp2 := D.p2
  obtain ⟨m, e, B⟩ := D.dbl
  obtain ⟨n, hn, hlow, F0, F1⟩ := B.fl
  have hbig := B.big hn hlow F0.lt2'
  have hsmall := B.fixed hn F0.lt1'
  repeat' walk_at "ps"
  refine from_decimal_spec (dg N) _ (by walk_at "ar") ?_
  rw [hlen]
  generalize fdF (dg N) (P - (K : Int)) = b at *
  repeat' walk_at "st"
  refine Then.next ?_
  refine PS.seq ?_
  repeat' walk_at "pe"
  refine ite_dec (fun hc => ?_) fun hc => ?_
  · have hc : 21 < P := by walk_at "ar"
    repeat' walk_at "pe"
    refine to_fixed_big many F0 (hbig hc) ?_
    repeat' walk_at "pe"
    refine show_spec F0 ?_
    repeat' walk_at "pe"
    rw [beq_self_eq_true]; exact h
  have hc : P ≤ 21 := by walk_at "ar"
  have hsmall := hsmall hc
  clear hbig
  refine PS.nil ?_
  refine Then.next ?_
  refine PS.seq ?_
  walk_at "as"
  repeat' walk_at "st"
  obtain ⟨mz, hmz⟩ : ∃ z : Int, z = (if ((15 : Nat) : Int) - P < (many : Int) then ((15 : Nat) : Int) - P else (many : Int)) := ⟨_, rfl⟩
  rw [← hmz]
  have hmz1 : mz ≤ many ∧ mz ≤ 15 - P := by rw [hmz]; split <;> walk_at "ar"
  clear hmz
  refine Then.next ?_
  refine PS.seq ?_
  repeat' walk_at "pe"
  refine ite_dec (fun hc2 => ?_) fun hc2 => ?_
  · repeat' walk_at "pe"
    exact h
  obtain ⟨mm, rfl⟩ := Int.eq_ofNat_of_zero_le (show 0 ≤ mz by walk_at "ar")
  clear hc2
  refine PS.nil ?_
  refine Then.next ?_
  refine PS.seq ?_
  walk_at "as"
  repeat' walk_at "st"
  rw [hlen]
  obtain ⟨mv, hmv⟩ : ∃ z : Int, z = P - (K : Int) + (mm : Int) := ⟨_, rfl⟩
  rw [← hmv]
  have mx1 : (if ((0 : Nat) : Int) > ((0 : Nat) : Int) - mv then ((0 : Nat) : Int) else ((0 : Nat) : Int) - mv) = ((-mv).toNat : Int) := by split <;> walk_at "ar"
  have mx2 : (if ((0 : Nat) : Int) > mv then ((0 : Nat) : Int) else mv) = (mv.toNat : Int) := by split <;> walk_at "ar"
  refine Then.next ?_
  refine PS.seq ?_
  walk_at "as"
  repeat' walk_at "st"
  rw [mx1]
  have q1 : (-mv).toNat ≤ 100 := by walk_at "ar"
  have q2 : mv.toNat ≤ 100 := by walk_at "ar"
  repeat' walk_at "st"
  refine Then.next ?_
  refine PS.seq ?_
  walk_at "as"
  repeat' walk_at "st"
  have hne : dg N ≠ [] := by intro hh; rw [hh] at hlen; simp at hlen; walk_at "ar"
  refine PCall.intD (Fig.dg N) hne (by walk_at "ar") ?_
  rw [foldF_dg]
  repeat' walk_at "st"
  rw [mx2]
  -- the decimal, moved
  have hN : N < 10 ^ 15 := Nat.lt_of_lt_of_le D.n2 (Nat.pow_le_pow_right (by decide) hk2)
  have hI : N * 10 ^ mv.toNat ≤ 10 ^ 15 := by
    by_cases hz : 0 ≤ mv
    · have : N * 10 ^ mv.toNat ≤ 10 ^ K * 10 ^ mv.toNat := Nat.mul_le_mul_right _ (Nat.le_of_lt D.n2)
      rw [← Nat.pow_add] at this
      exact Nat.le_trans this (Nat.pow_le_pow_right (by decide) (by walk_at "ar"))
    · rw [show mv.toNat = 0 by walk_at "ar", Nat.pow_zero, Nat.mul_one]; walk_at "ar"
  have hrel : tD N K P * 10 ^ mm * 10 ^ (-mv).toNat = N * 10 ^ mv.toNat * dD K P * 10 ^ 0 := by
    unfold tD dD
    rw [Nat.pow_zero, Nat.mul_one, Nat.mul_assoc, Nat.mul_assoc, Nat.mul_assoc, ← Nat.pow_add, ← Nat.pow_add, ← Nat.pow_add, ar_mv hmv]
  have hZ : 0 < 10 ^ (-mv).toNat := Nat.pow_pos (by decide)
  have hhu := fun hne => B.hu mm 0 _ _ hI hZ hrel hne
  rw [Nat.pow_zero, Nat.mul_one] at hhu
  have s1 : Sm N := Sm_le (k := 60) (Nat.lt_trans hN (by decide)) (by decide)
  have s2 : Sm (10 ^ mv.toNat) := Sm_le (ten_lt (x := mv.toNat) (by walk_at "ar")) (by decide)
  have s3 : Sm (10 ^ (-mv).toNat) := Sm_le (ten_lt (x := (-mv).toNat) (by walk_at "ar")) (by decide)
  have hsp := huF_split (I := N * 10 ^ mv.toNat) hZ
  have hw : huF (N * 10 ^ mv.toNat) (10 ^ (-mv).toNat) < 2 ^ 60 := by
    have h1 : N * 10 ^ mv.toNat / 10 ^ (-mv).toNat ≤ N * 10 ^ mv.toNat := Nat.div_le_self _ _
    have e60 : 10 ^ 15 + 1 < 2 ^ 60 := by decide
    rw [hsp]
    split <;> walk_at "ar"
  have hw19 : huF (N * 10 ^ mv.toNat) (10 ^ (-mv).toNat) < 2 ^ 1900 := Nat.lt_trans hw (Nat.pow_lt_pow_right (by decide) (by decide))
  have hwl := dg_short hw19
  clear mx1 mx2 hrel hN
  repeat' walk_at "st"
  generalize N * 10 ^ mv.toNat = I at *
  generalize 10 ^ (-mv).toNat = Z at *
  clear q1 q2 s2
  have sr : Sm (I % Z) := Nat.lt_trans (Nat.mod_lt _ hZ) s3
  refine Then.next ?_
  refine PS.seq ?_
  repeat' walk_at "pe"
  refine ite_eqN (fun hc2 => ?_) fun hc2 => ?_
  · repeat' walk_at "pe"
    exact h
  have hhu := hhu hc2
  refine PS.nil ?_
  refine Then.next ?_
  refine PS.seq ?_
  walk_at "as"
  repeat' walk_at "st"
  have esum : ((I / Z : Nat) : Int) + (if decide (Z < 2 * (I % Z)) = true then 1 else 0) = ((huF I Z : Nat) : Int) := by
    rw [hsp]
    by_cases ho : Z < 2 * (I % Z)
    · rw [if_pos (decide_eq_true ho), if_pos (by walk_at "ar")]; walk_at "ar"
    · rw [if_neg (by rw [decide_eq_false ho]; decide), if_neg (by walk_at "ar")]; walk_at "ar"
  rw [esum]
  clear esum hsp hw sr s1 s3
  have t0 := tf_due (sgF 0 m) (m * 2 ^ e.toNat) (2 ^ (-e).toNat) mm
  have t1 := tf_due (sgF 1 m) (m * 2 ^ e.toNat) (2 ^ (-e).toNat) mm
  rw [hhu] at t0 t1
  rw [F0.sgn] at t0
  rw [F1.sgn] at t1
  have t0 : tfF (sgF 0 m) (m * 2 ^ e.toNat) (2 ^ (-e).toNat) mm = dueF (huF I Z) mm := by rw [F0.sgn]; exact t0
  have t1 : tfF (sgF 1 m) (m * 2 ^ e.toNat) (2 ^ (-e).toNat) mm = [45] ++ dueF (huF I Z) mm := by rw [F1.sgn]; exact t1
  generalize huF I Z = w at *
  have dl : (dueF w mm).length ≤ 3000 := by
    unfold dueF
    have hL : mm + 1 - (dg w).length + (dg w).length ≤ 2000 := by walk_at "ar"
    simp only [List.length_append, List.length_take, zs_len]
    split
    · simp only [List.length_append, List.length_drop, List.length_cons, List.length_nil, zs_len]; rw [ltn]; exact Nat.le_trans (Nat.add_le_add_right hL 1) (by decide)
    · exact Nat.le_trans (Nat.min_le_right _ _) (Nat.le_trans hL (by decide))
  have dd : dueF w mm = (zs (mm + 1 - (dg w).length) ++ dg w).take ((zs (mm + 1 - (dg w).length) ++ dg w).length - mm) ++ (if 0 < mm then [46] ++ (zs (mm + 1 - (dg w).length) ++ dg w).drop ((zs (mm + 1 - (dg w).length) ++ dg w).length - mm) else []) := rfl
  have z2 := zs_len (mm + 1 - (dg w).length)
  repeat' walk_at "st"
  refine Then.next ?_
  refine PS.seq ?_
  walk_at "as"
  repeat' walk_at "st"
  rw [e0]
  refine PBin.zeros (by walk_at "ar") (by walk_at "ar") ?_
  rw [Int.toNat_sub (mm + 1) (dg w).length]
  repeat' walk_at "st"
  have hgl : mm ≤ (zs (mm + 1 - (dg w).length) ++ dg w).length ∧ (zs (mm + 1 - (dg w).length) ++ dg w).length ≤ 2000 := by rw [List.length_append, z2]; walk_at "ar"
  clear z2
  generalize zs (mm + 1 - (dg w).length) ++ dg w = g at *
  obtain ⟨hg1, hg2⟩ := hgl
  refine Then.next ?_
  refine PS.seq ?_
  walk_at "as"
  refine PE.mono (Ψ := fun x => x = DS (dueF w mm)) ?_ ?_
  · rw [dd]
    have v1 : ([46] : List Nat).length + (g.drop (g.length - mm)).length ≤ 16777216 := by rw [List.length_drop]; simp only [List.length_cons, List.length_nil]; walk_at "ar"
    have v2 : (g.take (g.length - mm)).length + ([46] ++ g.drop (g.length - mm)).length ≤ 16777216 := by rw [List.length_append, List.length_drop, List.length_take]; simp only [List.length_cons, List.length_nil]; rw [ltn]; walk_at "ar"
    have v3 : (g.take (g.length - mm)).length + ([] : List Nat).length ≤ 16777216 := by rw [List.length_take]; exact Nat.le_trans (Nat.min_le_right _ _) (by walk_at "ar")
    repeat' walk_at "st"
    refine ite_dec (fun h1 => ?_) fun h1 => ?_
    · rw [if_pos h1]
      repeat' first | walk_at "st" | rw [ep]
      rfl
    · rw [if_neg h1]
      repeat' first | walk_at "st" | rw [en]
      rfl
  rintro _ rfl
  have hm1 := F0.m1
  have he := F0.e1
  repeat' walk_at "pe"
  refine to_fixed_spec mm (by walk_at "ar") F0.parts F0.wo hm1 (by walk_at "ar") hsmall ?_
  rw [t0]
  repeat' walk_at "pe"
  refine ite_eqS (fun _ => ?_) fun hh => absurd rfl hh
  repeat' walk_at "pe"
  refine law_minus_spec ?_
  repeat' walk_at "pe"
  refine to_fixed_spec mm (by walk_at "ar") F1.parts F1.wo hm1 (by walk_at "ar") hsmall ?_
  rw [t1]
  clear hw19
  repeat' walk_at "pe"
  rw [em]
  repeat' walk_at "pe"
  rw [beq_self_eq_true]; exact h
/-! figures without their last zeros -/
theorem rstr_snoc (l : List Nat) (c : Nat) : rstr (l ++ [c]) [48] = if c = 48 then rstr l [48] else l ++ [c] := by
  unfold rstr
  rw [List.reverse_append, List.reverse_singleton, List.singleton_append, List.dropWhile_cons]
  by_cases h : c = 48
  · subst h; rw [if_pos (by decide), if_pos rfl]
  · rw [if_neg (by simpa using h), if_neg h, List.reverse_cons, List.reverse_reverse]
theorem rstr_dg : ∀ (b M : Nat), M ≤ b → 0 < M → ∃ N, rstr (dg M) [48] = dg N ∧ N % 10 ≠ 0 ∧ N ≤ M ∧ 0 < N
  | 0, M, h, h0 => by walk_at "ar"
  | b + 1, M, h, h0 => by
    by_cases hs : M < 10
    · refine ⟨M, ?_, by walk_at "ar", Nat.le_refl _, h0⟩
      rw [dg_small hs]
      have := rstr_snoc [] (48 + M)
      rw [List.nil_append, if_neg (by walk_at "ar")] at this
      exact this
    · rw [dg_step (by walk_at "ar"), rstr_snoc]
      by_cases hz : M % 10 = 0
      · rw [if_pos (by walk_at "ar")]
        obtain ⟨N, e, h1, h2, h3⟩ := rstr_dg b (M / 10) (by walk_at "ar") (by walk_at "ar")
        exact ⟨N, e, h1, by walk_at "ar", h3⟩
      · rw [if_neg (by walk_at "ar"), ← dg_step (by walk_at "ar")]
        exact ⟨M, rfl, hz, Nat.le_refl _, h0⟩
theorem dec_of {N : Nat} {P : Int} (h0 : 0 < N) (h1 : N % 10 ≠ 0) (h2 : N < 10 ^ 15) (p1 : -30 ≤ P) (p2 : P ≤ 30) : Dec N (dg N).length P :=
  ⟨dg_pos N, dg_le (by decide) h2, h1, dg_lo h0, dg_hi N, p1, p2⟩
noncomputable def DecB (l : List Nat) (P : Int) : Prop := l = dg (foldF 10 l) ∧ 0 < foldF 10 l ∧ foldF 10 l % 10 ≠ 0 ∧ foldF 10 l < 10 ^ 15 ∧ -30 ≤ P ∧ P ≤ 30
theorem DecB.dec {l : List Nat} {P : Int} (h : DecB l P) : ∃ N K, l = dg N ∧ Dec N K P := by
  obtain ⟨h1, h2, h3, h4, h5, h6⟩ := h
  exact ⟨_, _, h1, dec_of h2 h3 h4 h5 h6⟩
local macro_rules | `(tactic| walk_at "sw") => `(tactic| first | walk_at "st" | ((with_reducible refine PBin.catL ?h1 ?hk); (case h1 => exact Nat.le_of_ble_eq_true rfl)) | refine law_whole_spec _ (by decide) ?_ | refine law_minus_spec ?_)
local macro_rules | `(tactic| walk_at "na") => `(tactic| (refine Then.next ?_; refine PS.seq ?_; walk_at "as"; repeat' walk_at "sw"))
-- two lists make one that is to grow
local macro_rules | `(tactic| walk_at "nc") => `(tactic| (refine Then.next ?_; refine PS.seq ?_; refine PS1.catOwn ?hn ?hk; (case hn => decide +kernel); (repeat' walk_at "sw"); refine ⟨_, _, rfl, rfl, Nat.le_of_ble_eq_true rfl, ?_⟩))
local macro_rules | `(tactic| walk_at "np") => `(tactic| (refine Then.next ?_; refine PS.seq ?_; refine PS1.append ?hn ?he ?hl ?hz ?hk; (case hn => decide +kernel); (case he => rfl); (case hl => rfl); (case hz => exact Nat.le_of_ble_eq_true rfl); (repeat' walk_at "sw")))
noncomputable def textsT : List (List Nat × Nat × Nat) := [(lt "", 0, NANN), (lt "0x", NANN, 0), (lt "0XfF", lwF ((255 : Nat) : Int), 0), (lt "-0x1", NANN, 2 ^ 63),
  (lt "+Infinity", INFN, INFN), (lt "Infinit", NANN, NANN), (lt ".", NANN, NANN), (lt "-Infinity", INFN + 2 ^ 63, INFN + 2 ^ 63), (lt "1e", NANN, lwF ((1 : Nat) : Int)),
  (lt "5.", lwF ((5 : Nat) : Int), lwF ((5 : Nat) : Int)), (lt "-.5e1", lwF (-((5 : Nat) : Int)), lwF (-((5 : Nat) : Int))), (lt "1e400", INFN, INFN), (lt "1e-400", 0, 0), (lt "-0", 2 ^ 63, 2 ^ 63), (lt "1 2", NANN, lwF ((1 : Nat) : Int)),
  (lt "1E+2", lwF ((100 : Nat) : Int), lwF ((100 : Nat) : Int)), (lt "50e-2x", NANN, 4602678819172646912), (lt "+", NANN, NANN), (lt "0.5.5", NANN, 4602678819172646912), (lt "3e-", NANN, lwF ((3 : Nat) : Int)),
  (lt "0e999999999999", 0, 0), (lt "1e999999999999", INFN, INFN), (lt "0xg", NANN, 0)]
noncomputable def TextOk (r : List Nat × Nat × Nat) : Prop := r.1.length ≤ 200 ∧ ttnF r.1 = r.2.1 ∧ pfF r.1 = r.2.2 ∧ r.2.1 < 2 ^ 1900 ∧ r.2.2 < 2 ^ 1900
theorem textsT_ok : ∀ r ∈ textsT, TextOk r := by unfold TextOk; decide +kernel
noncomputable def textD (r : List Nat × Nat × Nat) : Dat := .tuple [DS r.1, .int (r.2.1 : Nat), .int (r.2.2 : Nat)]
theorem law_texts_spec {k : Nat} {Ψ : Dat → Prop} (h : Ψ (.bool true)) : FSpec (k + 7) (Str.ofString "_law_texts_right") [] Ψ := by
  refine FSpec.of_body (mem_rec (k := 74) rfl ⟨rfl, rfl, rfl⟩) (by walk_at "bind") (by decide +kernel) ?_
  change PS _ _ _ [] _ _
  refine PS.seq ?_
  walk_at "as"
  repeat' walk_at "st"
  walk_at "na"
  walk_at "nc"
  walk_at "np"
  refine Then.next ?_
  refine PS.freeze ?_
  refine PS.seq ?_
  walk_at "as"
  repeat' walk_at "sw"
  walk_at "na"
  walk_at "nc"
  walk_at "np"
  refine Then.next ?_
  refine PS.freeze ?_
  refine PS.seq ?_
  refine PS1.catOwn ?hn ?hk
  case hn => decide +kernel
  case hk =>
    repeat' walk_at "sw"
    refine ⟨_, _, rfl, rfl, Nat.le_of_ble_eq_true rfl, ?_⟩
    walk_at "np"
    refine Then.next ?_
    refine PS.freeze ?_
    refine PS.seq ?_
    refine PS1.catOwn ?hn ?hk
    case hn => decide +kernel
    case hk =>
      repeat' walk_at "sw"
      refine ⟨_, _, rfl, rfl, Nat.le_of_ble_eq_true rfl, ?_⟩
      walk_at "np"
      refine Then.next ?_
      refine PS.freeze ?_
      refine PS.seq ?_
      walk_at "as"
      repeat' walk_at "sw"
      refine Then.next ?_
      refine PS.seq ?_
      refine PS1.forM textsT textD TextOk (fun _ => True) rfl textsT_ok ?_ trivial ?_ ?_
      · repeat' walk_at "st"
        exact .inl rfl
      · rintro i ⟨t, a, b⟩ ρ ⟨h1, h2, h3, h4, h5⟩ -
        simp only at h1 h2 h3 h4 h5
        show PA _ _ _ _ _ (.tuple [DS t, .int (a : Nat), .int (b : Nat)]) _
        repeat' walk_at "pe"
        refine text_to_number_spec t h1 ?_
        rw [h2]
        repeat' walk_at "pe"
        refine parse_float_spec t h1 ?_
        rw [h3]
        repeat' walk_at "pe"
        refine PCall.reprP h4 h5 ?_
        repeat' walk_at "pe"
        refine PCall.reprP h4 h5 ?_
        repeat' walk_at "pe"
        refine ite_neS (fun hh => absurd rfl hh) fun _ => ?_
        refine PS.nil ?_
        refine Then.next ?_
        refine PS.nil ?_
        exact TurnF.next (J := fun _ _ => True) trivial
      · rintro ρ -
        repeat' walk_at "pe"
        exact h
local macro_rules | `(tactic| walk_at "sw") => `(tactic| first | walk_at "st" | ((with_reducible refine PBin.catL ?h1 ?hk); (case h1 => exact Nat.le_of_ble_eq_true rfl)) | refine law_whole_spec _ (by decide) ?_ | refine law_minus_spec ?_)
local macro_rules | `(tactic| walk_at "na") => `(tactic| (refine Then.next ?_; refine PS.seq ?_; walk_at "as"; repeat' walk_at "sw"))
theorem parse_int_bad {k : Nat} (l : List Nat) (r : Int) (hl : l.length ≤ 200) (hr : r < 0) {Ψ : Dat → Prop} (h : Ψ (.int (NANN : Nat))) : FSpec (k + 6) (Str.ofString "parse_int") [DS l, .int r] Ψ := by
  refine FSpec.of_body (mem_rec (k := 62) rfl ⟨rfl, rfl, rfl⟩) (by walk_at "bind") (by decide +kernel) ?_
  change PS _ _ _ [(Str.ofString "radix", .int r), (Str.ofString "text", DS l)] _ _
  repeat' walk_at "ps"
  refine skip_blanks_spec l 0 (by walk_at "ar") (by walk_at "ar") ?_
  repeat' walk_at "ps"
  refine sign_at_spec l _ (by walk_at "ar") ?_
  generalize signF l (skipF l 0) = q at *
  obtain ⟨m, b⟩ := q
  repeat' walk_at "ps"
  refine PS.seq ?_
  refine PS1.ite (PT.mono (Ψ := fun x => x = true) ?_ ?_)
  · repeat' first | walk_at "pe" | refine ite_neI (fun _ => ?_) fun hh => absurd hh (by walk_at "ar") | refine ite_dec (fun hh => absurd hh (by walk_at "ar")) fun _ => ?_
    rfl
  · rintro _ rfl
    repeat' walk_at "pe"
    exact h
noncomputable def cutsT : List (List Nat × Int × Option Int) := [(lt "  -0x1F", ((0 : Nat) : Int), some (-((31 : Nat) : Int))), (lt "0x", ((16 : Nat) : Int), none), (lt "12", ((2 : Nat) : Int), some ((1 : Nat) : Int)), (lt "zZ", ((36 : Nat) : Int), some ((1295 : Nat) : Int)), (lt "9", ((8 : Nat) : Int), none), (lt "", ((10 : Nat) : Int), none),
  (lt "5", ((1 : Nat) : Int), none), (lt "5", ((37 : Nat) : Int), none), (lt "0x10", ((10 : Nat) : Int), some ((0 : Nat) : Int)), (lt "0X10", ((16 : Nat) : Int), some ((16 : Nat) : Int)), (lt "+7up", ((0 : Nat) : Int), some ((7 : Nat) : Int)), (lt "10", -((2 : Nat) : Int), none),
  (lt "-12.9", ((0 : Nat) : Int), some (-((12 : Nat) : Int))), (lt "@1", ((36 : Nat) : Int), none), (lt "[1", ((36 : Nat) : Int), none), (lt "10", ((16 : Nat) : Int), some ((16 : Nat) : Int)), (lt "1", ((36 : Nat) : Int), some ((1 : Nat) : Int))]
noncomputable def cutV : Option Int → Nat
  | none => NANN
  | some d => lwF d
noncomputable def optI : Option Int → Dat
  | none => .none
  | some d => .int d
noncomputable def CutOk (r : List Nat × Int × Option Int) : Prop := r.1.length ≤ 200 ∧ piF r.1 r.2.1 = cutV r.2.2 ∧ (r.2.2.getD 0).natAbs < 2 ^ 40 ∧ cutV r.2.2 < 2 ^ 1900 ∧ (r.2.1 < 0 → cutV r.2.2 = NANN)
theorem cutsT_ok : ∀ r ∈ cutsT, CutOk r := by unfold CutOk; decide +kernel
noncomputable def cutD (r : List Nat × Int × Option Int) : Dat := .tuple [DS r.1, .int r.2.1, optI r.2.2]
theorem parse_int_any {k : Nat} (l : List Nat) (r : Int) (v : Nat) (hl : l.length ≤ 200) (h1 : piF l r = v) (h2 : r < 0 → v = NANN) {Ψ : Dat → Prop} (h : Ψ (.int (v : Nat))) : FSpec (k + 6) (Str.ofString "parse_int") [DS l, .int r] Ψ := by
  by_cases hr : r < 0
  · rw [h2 hr] at h
    exact parse_int_bad l r hl hr h
  · obtain ⟨x, rfl⟩ := Int.eq_ofNat_of_zero_le (show 0 ≤ r by walk_at "ar")
    rw [← h1] at h
    exact parse_int_spec l x hl h
theorem law_cuts_spec {k : Nat} {Ψ : Dat → Prop} (h : Ψ (.bool true)) : FSpec (k + 7) (Str.ofString "_law_cuts_right") [] Ψ := by
  refine FSpec.of_body (mem_rec (k := 75) rfl ⟨rfl, rfl, rfl⟩) (by walk_at "bind") (by decide +kernel) ?_
  change PS _ _ _ [] _ _
  refine PS.seq ?_
  walk_at "as"
  repeat' walk_at "sw"
  walk_at "na"
  walk_at "na"
  refine Then.next ?_
  refine PS.seq ?_
  refine PS1.forM cutsT cutD CutOk (fun _ => True) rfl cutsT_ok ?_ trivial ?_ ?_
  · repeat' walk_at "st"
    exact .inl rfl
  · rintro i ⟨t, r, o⟩ ρ ⟨h1, h2, h3, h4, h5⟩ -
    simp only at h1 h2 h3 h4 h5
    show PA _ _ _ _ _ (.tuple [DS t, .int r, optI o]) _
    refine PA.tup3 ?_ ?_
    · decide +kernel
    refine PS.seq ?_
    refine PS1.ite ?_
    repeat' walk_at "pe"
    refine parse_int_any t r _ h1 h2 h5 ?_
    repeat' walk_at "pe"
    refine PCall.reprN h4 ?_
    repeat' walk_at "pe"
    cases o with
    | none =>
      simp only [optI, cutV]
      refine ite_t ?_
      repeat' walk_at "pe"
      refine PCall.reprN (x := NANN) h4 ?_
      repeat' walk_at "pe"
      refine ite_neS (fun hh => absurd rfl hh) fun _ => ?_
      refine PS.nil ?_
      refine Then.next ?_
      refine PS.nil ?_
      exact TurnF.next (J := fun _ _ => True) trivial
    | some d =>
      simp only [optI, cutV]
      repeat' walk_at "pe"
      refine ite_f ?_
      repeat' walk_at "pe"
      refine law_whole_spec d h3 ?_
      repeat' walk_at "pe"
      refine PCall.reprN h4 ?_
      repeat' walk_at "pe"
      refine ite_neS (fun hh => absurd rfl hh) fun _ => ?_
      refine PS.nil ?_
      refine Then.next ?_
      refine PS.nil ?_
      exact TurnF.next (J := fun _ _ => True) trivial
  · rintro ρ -
    have e : piF (lt "-0") ((0 : Nat) : Int) = 2 ^ 63 := by decide +kernel
    repeat' walk_at "pe"
    refine parse_int_any _ _ _ (by decide +kernel) e (fun hh => absurd hh (by decide)) ?_
    repeat' walk_at "pe"
    refine law_minus_spec ?_
    repeat' walk_at "pe"
    rw [beq_self_eq_true]; exact h
local macro_rules | `(tactic| walk_at "sw") => `(tactic| first | walk_at "st" | ((with_reducible refine PBin.catL ?h1 ?hk); (case h1 => exact Nat.le_of_ble_eq_true rfl)) | refine law_minus_spec ?_)
theorem kqd_str {l : List Nat} (h : PyData.strOk (tx l) = true) : kqdOk 8 (DS l) = true := h
theorem kqd_int {i : Int} : kqdOk 8 (.int i) = true := rfl
theorem all_mem {p : Dat → Prop} {d : Dat} {ds : List Dat} (h : p d) (hs : ∀ x ∈ ds, p x) : ∀ x ∈ d :: ds, p x := fun x hx => by
  rcases List.mem_cons.mp hx with rfl | hx
  · exact h
  · exact hs x hx
theorem all_none {p : Dat → Prop} : ∀ x ∈ ([] : List Dat), p x := fun _ h => nomatch h
local macro_rules | `(tactic| walk_at "kq") => `(tactic| repeat' first | exact all_none | refine all_mem ?_ ?_ | exact kqd_int | (refine kqd_str ?_; first | assumption | decide +kernel))
noncomputable def oddT : List (Nat × List Nat) := [(NANN, lt "NaN"), (INFN, lt "Infinity"), (INFN + 2 ^ 63, lt "-Infinity")]
noncomputable def OddOk (r : Nat × List Nat) : Prop := woF r.1 = some r.2 ∧ PyData.strOk (tx r.2) = true
theorem oddT_ok : ∀ r ∈ oddT, OddOk r := by unfold OddOk; decide +kernel
noncomputable def oddD (r : Nat × List Nat) : Dat := .tuple [.int (r.1 : Nat), DS r.2]
noncomputable def ZeroOk (b : Nat) : Prop := b % 2 ^ 63 = 0 ∧ partsF b = (b / 2 ^ 63, 0, -1074) ∧ woF b = none
theorem zeros_ok : ∀ b ∈ [0, 2 ^ 63], ZeroOk b := by unfold ZeroOk; decide +kernel
theorem law_odd_spec {k : Nat} {Ψ : Dat → Prop} (h : Ψ (.bool true)) : FSpec (k + 7) (Str.ofString "_law_odd_right") [] Ψ := by
  refine FSpec.of_body (mem_rec (k := 76) rfl ⟨rfl, rfl, rfl⟩) (by walk_at "bind") (by decide +kernel) ?_
  change PS _ _ _ [] _ _
  refine PS.seq ?_
  walk_at "as"
  repeat' walk_at "sw"
  refine Then.next ?_
  refine PS.seq ?_
  refine PS1.forM oddT oddD OddOk (fun _ => True) rfl oddT_ok ?_ trivial ?_ ?_
  · repeat' walk_at "st"
    exact .inl rfl
  · rintro i ⟨b, l⟩ ρ ⟨h1, h2⟩ -
    simp only at h1 h2
    show PA _ _ _ _ _ (.tuple [.int (b : Nat), DS l]) _
    repeat' first | walk_at "pe" | refine show_wo b l h1 ?_ | refine to_fixed_wo b _ l h1 ?_ | refine to_exponential_wo b l h1 ?_ | refine to_precision_wo b _ l h1 ?_
    refine PBin.repL (by decide) (Nat.le_of_ble_eq_true rfl) (by decide) ?_
    refine PCmp.neLs rfl ?_ ?_
    · walk_at "kq"
    refine ite_f ?_
    refine PS.nil ?_
    refine Then.next ?_
    refine PS.nil ?_
    exact TurnF.next (J := fun _ _ => True) trivial
  rintro ρ -
  refine Then.next ?_
  refine PS.seq ?_
  refine PS1.forM [0, 2 ^ 63] (fun b : Nat => .int (b : Nat)) ZeroOk (fun _ => True) rfl zeros_ok ?_ trivial ?_ ?_
  · repeat' walk_at "sw"
    exact .inr rfl
  · rintro i b ρ ⟨h1, h2, h3⟩ -
    have m0 : 0 * 2 ^ ((-1074 : Int)).toNat < 2 ^ (-(-1074 : Int)).toNat * 10 ^ 21 := by decide +kernel
    have m1 : (0 : Nat) < 2 ^ 53 := by decide +kernel
    have m2 : ∀ s, sgF s 0 = [] := fun s => by unfold sgF; rw [if_neg (fun hh => hh.2 rfl)]
    have v1 : ∀ s, tfF (sgF s 0) (0 * 2 ^ ((-1074 : Int)).toNat) (2 ^ (-(-1074 : Int)).toNat) 0 = lt "0" := fun s => by rw [m2]; decide +kernel
    have v2 : ∀ s, tfF (sgF s 0) (0 * 2 ^ ((-1074 : Int)).toNat) (2 ^ (-(-1074 : Int)).toNat) 2 = lt "0.00" := fun s => by rw [m2]; decide +kernel
    have v3 : weF [48] 0 = lt "0e+0" := by decide +kernel
    have v4 : weF (zs (1 + 2)) 0 = lt "0.00e+0" := by decide +kernel
    have v5 : tpF (zs 1) 0 1 = lt "0" := by decide +kernel
    have v6 : tpF (zs 3) 0 3 = lt "0.00" := by decide +kernel
    have v7 : [48] = lt "0" := by decide +kernel
    generalize b / 2 ^ 63 = s at h2
    have f0 : ∀ {j : Nat} {Ψ : Dat → Prop}, Ψ (DS (lt "0")) → FSpec (j + 4) (Str.ofString "to_fixed") [.int b, .int ((0 : Nat) : Int)] Ψ := fun hh => to_fixed_spec 0 (by decide) h2 h3 m1 (by decide) m0 (by rw [v1]; exact hh)
    have f2 : ∀ {j : Nat} {Ψ : Dat → Prop}, Ψ (DS (lt "0.00")) → FSpec (j + 4) (Str.ofString "to_fixed") [.int b, .int ((2 : Nat) : Int)] Ψ := fun hh => to_fixed_spec 2 (by decide) h2 h3 m1 (by decide) m0 (by rw [v2]; exact hh)
    have x0 : ∀ {j : Nat} {Ψ : Dat → Prop}, Ψ (DS (lt "0e+0")) → FSpec (j + 4) (Str.ofString "to_exponential") [.int b, .none] Ψ := fun hh => to_exponential_zero_none h2 h3 (by rw [v3]; exact hh)
    have x2 : ∀ {j : Nat} {Ψ : Dat → Prop}, Ψ (DS (lt "0.00e+0")) → FSpec (j + 4) (Str.ofString "to_exponential") [.int b, .int ((2 : Nat) : Int)] Ψ := fun hh => to_exponential_zero 2 (by decide) h2 h3 (by rw [v4]; exact hh)
    have p1 : ∀ {j : Nat} {Ψ : Dat → Prop}, Ψ (DS (lt "0")) → FSpec (j + 4) (Str.ofString "to_precision") [.int b, .int ((1 : Nat) : Int)] Ψ := fun hh => to_precision_zero 1 (by decide) h2 h3 (by rw [v5]; exact hh)
    have p3 : ∀ {j : Nat} {Ψ : Dat → Prop}, Ψ (DS (lt "0.00")) → FSpec (j + 4) (Str.ofString "to_precision") [.int b, .int ((3 : Nat) : Int)] Ψ := fun hh => to_precision_zero 3 (by decide) h2 h3 (by rw [v6]; exact hh)
    have s0 : ∀ {j : Nat} {Ψ : Dat → Prop}, Ψ (DS (lt "0")) → FSpec (j + 4) (Str.ofString "show") [.int b] Ψ := fun hh => show_zero b h1 (by rw [v7]; exact hh)
    clear v1 v2 v3 v4 v5 v6 v7 m0 m1 m2
    show PA _ _ _ _ _ (.int (b : Nat)) _
    repeat' first | walk_at "pe" | refine s0 ?_ | refine f0 ?_ | refine f2 ?_
    refine PCmp.neLs rfl ?_ ?_
    · walk_at "kq"
    refine ite_f ?_
    repeat' first | walk_at "pe" | refine x0 ?_ | refine x2 ?_
    refine PCmp.neLs rfl ?_ ?_
    · walk_at "kq"
    refine ite_f ?_
    repeat' first | walk_at "pe" | refine p1 ?_ | refine p3 ?_
    refine PCmp.neLs rfl ?_ ?_
    · walk_at "kq"
    refine ite_f ?_
    refine PS.nil ?_
    refine Then.next ?_
    refine PS.nil ?_
    exact TurnF.next (J := fun _ _ => True) trivial
  · rintro ρ -
    repeat' walk_at "pe"
    exact h
noncomputable def lawBody : List Stmt := match (pw.main.body[77]? : Option Stmt) with
  | some (Stmt.FunctionDef _ _ body _ _ _ _ _ _ _) => body
  | _ => []
noncomputable def lawScope : Scope := match (pw.main.body[77]? : Option Stmt) with
  | some (Stmt.FunctionDef _ _ _ _ _ _ scope _ _ _) => scope
  | _ => default
noncomputable def lawRest : List Stmt := lawBody.drop 2
theorem law_of {P : List Stmt → Scope → Prop} {f b : Str} {params : Arguments} {s1 s2 : Stmt} {rest : List Stmt} {scope : Scope} {pos : Pos} (hst : pw.main.body[77]? = some (.FunctionDef f params (s1 :: s2 :: rest) [] Option.none [] scope Option.none b pos)) (h : P rest scope) : P lawRest lawScope := by
  unfold lawRest lawBody lawScope; rw [hst]; exact h
noncomputable def blanksC : List Nat := [9, 10, 11, 12, 13, 32, 160, 5760, 8192, 8197, 8202, 8232, 8233, 8239, 8287, 12288, 65279]
noncomputable def BlankOk (c : Nat) : Prop := c ≤ 1114111 ∧ ttnF ([c] ++ [55] ++ [c]) = lwF ((7 : Nat) : Int) ∧ piF ([c] ++ [55]) ((0 : Nat) : Int) = lwF ((7 : Nat) : Int)
theorem blanks_ok : ∀ c ∈ blanksC, BlankOk c := by unfold BlankOk; decide +kernel
noncomputable def codesC : List Nat := [0, 8, 14, 31, 33, 47, 58, 133, 161, 8191, 8203, 8234, 12289]
noncomputable def CodeOk (c : Nat) : Prop := c ≤ 1114111 ∧ ttnF ([c] ++ [55]) = NANN
theorem codes_ok : ∀ c ∈ codesC, CodeOk c := by unfold CodeOk; decide +kernel
noncomputable def edgesC : List (List Nat × Int) := [(lt "1", ((20 : Nat) : Int)), (lt "1", ((21 : Nat) : Int)), (lt "12", ((21 : Nat) : Int)), (lt "1", ((22 : Nat) : Int)), (lt "1", ((1 : Nat) : Int)), (lt "1", ((0 : Nat) : Int)), (lt "1", -((5 : Nat) : Int)), (lt "1", -((6 : Nat) : Int)), (lt "25", ((1 : Nat) : Int))]
noncomputable def edgeD (r : List Nat × Int) : Dat := .tuple [DS r.1, .int r.2]
theorem edges_ok : ∀ r ∈ edgesC, DecB r.1 r.2 := by unfold DecB; decide +kernel
noncomputable def roundsC : List (List Nat × Nat) := [(lt "999", 2), (lt "96", 1), (lt "14", 1), (lt "123", 3), (lt "5", 2)]
noncomputable def roundD (r : List Nat × Nat) : Dat := .tuple [DS r.1, .int (r.2 : Nat)]
noncomputable def pointsC (many : Nat) : List Int := [-((6 : Nat) : Int), -((5 : Nat) : Int), ((1 : Nat) : Int), (many : Int), ((many + 1 : Nat) : Int)]
noncomputable def RoundOk (r : List Nat × Nat) : Prop := 1 ≤ r.2 ∧ r.2 ≤ 15 ∧ ∀ p ∈ pointsC r.2, DecB r.1 p
theorem rounds_ok : ∀ r ∈ roundsC, RoundOk r := by unfold RoundOk DecB; decide +kernel
noncomputable def LawJ (t : Nat) (sz : List Nat) (ω : Om) (ρ : Rho) : Prop := ω = none ∧ ρ.lookup (Str.ofString "third") = some (.int (t : Nat)) ∧ ρ.lookup (Str.ofString "sizes") = some (.list (sz.map fun x => .int (x : Nat)))
structure LawP (k : Nat) (ρ : Rho) (Ψ : Dat → Prop) (b : List Stmt) (sc : Scope) : Prop where
  ps : PS sc (k + 7) none ρ b (Ends Ψ)
theorem law_rest (t : Nat) (sz : List Nat) (ht : t < 3) (hsz : ∀ x ∈ sz, x < 10 ^ 30) {ρ : Rho} {k : Nat} (w1 : ρ.lookup (Str.ofString "third") = some (.int (t : Nat))) (w2 : ρ.lookup (Str.ofString "sizes") = some (.list (sz.map fun x => .int (x : Nat)))) {Ψ : Dat → Prop} (h : Ψ (.bool true)) :
    LawP k ρ Ψ lawRest lawScope := by
  refine law_of (P := LawP k ρ Ψ) rfl ?_
  refine ⟨?_⟩
  have e7 : lt "7" = [55] := by decide +kernel
  have e0 : lt "0" = [48] := by decide +kernel
  -- blanks
  refine PS.seq ?_
  walk_at "as"
  repeat' walk_at "st"
  refine Then.next ?_
  refine PS.seq ?_
  walk_at "as"
  repeat' first | walk_at "st" | ((with_reducible refine PBin.catL ?h1 ?hk); (case h1 => exact Nat.le_of_ble_eq_true rfl))
  refine Then.next ?_
  with_reducible refine PS.seqJoin (LawJ t sz) ?_ ?_
  · with_reducible refine PS1.forM (pick blanksC (some (t : Int)) none (some ((3 : Nat) : Int))) (fun c => DS [c]) BlankOk (fun ρ => LawJ t sz none ρ) ?_ ?_ ?_ ?_ ?_ ?_
    · rfl
    · exact (fun c hc => blanks_ok c (pick_mem hc))
    · with_reducible refine PE.comp ((pick blanksC (some (t : Int)) none (some ((3 : Nat) : Int))).map fun c : Nat => (c : Int)) (fun a => .str (tx [a.toNat])) ?_ ?_ ?_ ?_ ?_ ?_
      · decide +kernel
      · rfl
      · rw [List.length_map]
        exact Nat.le_trans (pick_len _ _ _ _) (Nat.le_of_ble_eq_true rfl)
      · intro a ha
        obtain ⟨c, hc, rfl⟩ := List.mem_map.mp ha
        have hc1 := (blanks_ok c (pick_mem hc)).1
        exact elt_chr (by decide +kernel) (by decide +kernel) (by decide +kernel) (by walk_at "ar") (by walk_at "ar")
      · refine PE.pickSN ?_
        repeat' walk_at "st"
        refine ⟨_, _, _, rfl, rfl, rfl, by decide, Nat.le_of_ble_eq_true rfl, ?_⟩
        show Dat.list (pick (blanksC.map fun c : Nat => Dat.int (c : Nat)) _ _ _) = _
        rw [pick_map, List.map_map]; rfl
      · left
        rw [List.map_map, List.map_map]
        congr 1
    · refine ⟨rfl, ?_, ?_⟩ <;> walk_at "lk"
    · rintro i c ρ ⟨b1, b2, b3⟩ ⟨-, w1, w2⟩
      show PA _ _ _ _ _ (DS [c]) _
      repeat' first | walk_at "pe" | rw [e7]
      refine text_to_number_spec ([c] ++ [55] ++ [c]) (Nat.le_of_ble_eq_true rfl) ?_
      rw [b2]
      repeat' first | walk_at "pe" | rw [e7]
      refine parse_int_spec ([c] ++ [55]) 0 (Nat.le_of_ble_eq_true rfl) ?_
      rw [b3]
      repeat' first | walk_at "pe" | refine law_whole_spec _ (by decide) ?_
      refine PBin.repL (by decide) (Nat.le_of_ble_eq_true rfl) (by decide) ?_
      refine PCmp.neLs rfl ?_ ?_
      · exact all_mem kqd_int (all_mem kqd_int all_none)
      refine ite_f ?_
      refine PS.nil ?_
      refine Then.next ?_
      refine PS.nil ?_
      refine TurnF.next (J := fun _ => LawJ t sz none) ⟨rfl, ?_, ?_⟩ <;> walk_at "lk"
    · exact fun ρ hJ => Join.next hJ
  rintro ω ρ ⟨rfl, w1, w2⟩
  -- no blanks
  with_reducible refine PS.seqJoin (LawJ t sz) ?_ ?_
  · with_reducible refine PS1.forM (pick codesC (some (t : Int)) none (some ((3 : Nat) : Int))) (fun c : Nat => .int (c : Nat)) CodeOk (fun ρ => LawJ t sz none ρ) ?_ ?_ ?_ ?_ ?_ ?_
    · rfl
    · exact (fun c hc => codes_ok c (pick_mem hc))
    · refine PE.pickSN ?_
      repeat' walk_at "st"
      refine ⟨_, _, _, rfl, rfl, rfl, by decide, Nat.le_of_ble_eq_true rfl, ?_⟩
      left
      show Dat.list (pick (codesC.map fun c : Nat => Dat.int (c : Nat)) _ _ _) = _
      rw [pick_map]
    · exact ⟨rfl, w1, w2⟩
    · rintro i c ρ ⟨b1, b2⟩ ⟨-, w1, w2⟩
      show PA _ _ _ _ _ (.int (c : Nat)) _
      repeat' walk_at "pe"
      refine PCall.chr (by walk_at "ar") (by walk_at "ar") ?_
      rw [Int.toNat_natCast]
      repeat' first | walk_at "pe" | rw [e7]
      refine text_to_number_spec ([c] ++ [55]) (Nat.le_of_ble_eq_true rfl) ?_
      rw [b2]
      repeat' walk_at "pe"
      refine ite_neN (fun hh => absurd rfl hh) fun _ => ?_
      refine PS.nil ?_
      refine Then.next ?_
      refine PS.nil ?_
      refine TurnF.next (J := fun _ => LawJ t sz none) ⟨rfl, ?_, ?_⟩ <;> walk_at "lk"
    · exact fun ρ hJ => Join.next hJ
  rintro ω ρ ⟨rfl, w1, w2⟩
  -- the edges
  refine PS.seq ?_
  walk_at "as"
  repeat' walk_at "st"
  refine Then.next ?_
  with_reducible refine PS.seqJoin (LawJ t sz) ?_ ?_
  · with_reducible refine PS1.forM (pick edgesC (some (t : Int)) none (some ((3 : Nat) : Int))) edgeD (fun r => DecB r.1 r.2) (fun ρ => LawJ t sz none ρ) ?_ ?_ ?_ ?_ ?_ ?_
    · rfl
    · exact (fun c hc => edges_ok c (pick_mem hc))
    · refine PE.pickSN ?_
      repeat' walk_at "st"
      refine ⟨_, _, _, rfl, rfl, rfl, by decide, Nat.le_of_ble_eq_true rfl, ?_⟩
      left
      show Dat.list (pick (edgesC.map edgeD) _ _ _) = _
      rw [pick_map]
    · refine ⟨rfl, ?_, ?_⟩ <;> walk_at "lk"
    · rintro i ⟨l, P⟩ ρ hD ⟨-, w1, w2⟩
      obtain ⟨N, K, e, D⟩ := hD.dec
      simp only at e D
      subst e
      show PA _ _ _ _ _ (.tuple [DS (dg N), .int P]) _
      repeat' walk_at "pe"
      refine law_shows_spec N K P D ?_
      repeat' walk_at "pe"
      refine TurnF.next (J := fun _ => LawJ t sz none) ⟨rfl, ?_, ?_⟩ <;> walk_at "lk"
    · exact fun ρ hJ => Join.next hJ
  rintro ω ρ ⟨rfl, w1, w2⟩
  -- the bounds of the rounding
  with_reducible refine PS.seqJoin (LawJ t sz) ?_ ?_
  · with_reducible refine PS1.forM (pick roundsC (some (t : Int)) none (some ((3 : Nat) : Int))) roundD RoundOk (fun ρ => LawJ t sz none ρ) ?_ ?_ ?_ ?_ ?_ ?_
    · rfl
    · exact (fun c hc => rounds_ok c (pick_mem hc))
    · refine PE.pickSN ?_
      repeat' walk_at "st"
      refine ⟨_, _, _, rfl, rfl, rfl, by decide, Nat.le_of_ble_eq_true rfl, ?_⟩
      left
      show Dat.list (pick (roundsC.map roundD) _ _ _) = _
      rw [pick_map]
    · exact ⟨rfl, w1, w2⟩
    · rintro i ⟨l, many⟩ ρ ⟨m1, m2, hp⟩ ⟨-, w1, w2⟩
      simp only at m1 m2 hp
      show PA _ _ _ _ _ (.tuple [DS l, .int (many : Nat)]) _
      refine PA.tup2 (by decide +kernel) ?_
      refine PS.seq ?_
      with_reducible refine PS1.forM (pointsC many) Dat.int (fun p => DecB l p) (fun ρ => LawJ t sz none ρ ∧ ρ.lookup (Str.ofString "figures") = some (DS l) ∧ ρ.lookup (Str.ofString "many") = some (.int (many : Nat))) ?_ ?_ ?_ ?_ ?_ ?_
      · rfl
      · exact hp
      · repeat' walk_at "st"
        exact .inr rfl
      · refine ⟨⟨rfl, ?_, ?_⟩, ?_, ?_⟩ <;> walk_at "lk"
      · rintro j p ρ hD ⟨⟨-, w1, w2⟩, w3, w4⟩
        obtain ⟨N, K, e, D⟩ := hD.dec
        rw [e] at w3
        show PA _ _ _ _ _ (.int p) _
        repeat' walk_at "pe"
        refine law_rounds_spec N K many p D m1 m2 ?_
        repeat' walk_at "pe"
        refine law_fixes_spec N K many p D (by walk_at "ar") ?_
        repeat' walk_at "pe"
        rw [← e] at w3
        refine TurnF.next (J := fun _ ρ => LawJ t sz none ρ ∧ ρ.lookup (Str.ofString "figures") = some (DS l) ∧ ρ.lookup (Str.ofString "many") = some (.int (many : Nat))) ⟨⟨rfl, ?_, ?_⟩, ?_, ?_⟩ <;> walk_at "lk"
      · intro ρ hJ
        refine Then.next ?_
        refine PS.nil ?_
        exact TurnF.next (J := fun _ => LawJ t sz none) hJ.1
    · exact fun ρ hJ => Join.next hJ
  rintro ω ρ ⟨rfl, w1, w2⟩
  -- the decimals of the script
  with_reducible refine PS.seqJoin (LawJ t sz) ?_ ?_
  · with_reducible refine PS1.forM sz (fun x : Nat => .int (x : Nat)) (fun x => x < 10 ^ 30) (fun ρ => LawJ t sz none ρ) ?_ ?_ ?_ ?_ ?_ ?_
    · rfl
    · exact hsz
    · repeat' walk_at "st"
      exact .inl rfl
    · exact ⟨rfl, w1, w2⟩
    · rintro i x ρ hx ⟨-, w1, w2⟩
      have hM : 1 + x % (10 ^ 15 - 1) < 10 ^ 15 := by
        have := Nat.mod_lt x (show 0 < 10 ^ 15 - 1 by decide)
        walk_at "ar"
      have hM2 : 1 + x % (10 ^ 15 - 1) < 2 ^ 1900 := Nat.lt_trans hM (Nat.lt_of_lt_of_le (show 10 ^ 15 < 2 ^ 60 by decide) (Nat.pow_le_pow_right (by decide) (by decide)))
      have hlen := dg_short hM2
      obtain ⟨N, eN, n1, n2, n3⟩ := rstr_dg _ (1 + x % (10 ^ 15 - 1)) (Nat.le_refl _) (by walk_at "ar")
      show PA _ _ _ _ _ (.int (x : Nat)) _
      repeat' walk_at "pe"
      rw [e0, eN]
      repeat' walk_at "pe"
      have D := dec_of (P := ((x / 7 % 60 : Nat) : Int) - ((30 : Nat) : Int)) n3 n1 (by walk_at "ar") (by walk_at "ar") (by walk_at "ar")
      generalize ((x / 7 % 60 : Nat) : Int) - ((30 : Nat) : Int) = P at *
      refine law_shows_spec N _ P D ?_
      repeat' walk_at "pe"
      refine law_rounds_spec N _ (1 + x / 5 % 15) P D (by walk_at "ar") (by walk_at "ar") ?_
      repeat' walk_at "pe"
      refine law_fixes_spec N _ (x / 11 % 21) P D (by walk_at "ar") ?_
      repeat' walk_at "pe"
      refine TurnF.next (J := fun _ => LawJ t sz none) ⟨rfl, ?_, ?_⟩ <;> walk_at "lk"
    · exact fun ρ hJ => Join.next hJ
  rintro ω ρ ⟨rfl, w1, w2⟩
  repeat' walk_at "ps"
  refine PE.menu (by decide +kernel) (by decide +kernel) (by decide +kernel) (by decide +kernel) w1 ht (law_texts_spec ?_) (law_cuts_spec ?_) (law_odd_spec ?_)
  all_goals
    repeat' walk_at "pe"
    exact h
theorem law_of2 {P : List Stmt → Scope → Prop} {f b : Str} {params : Arguments} {s1 s2 : Stmt} {rest : List Stmt} {scope : Scope} {pos : Pos} (hst : pw.main.body[77]? = some (.FunctionDef f params (s1 :: s2 :: rest) [] Option.none [] scope Option.none b pos)) (h : P (s1 :: s2 :: lawRest) scope) : P lawBody lawScope := by
  have hb : lawBody = s1 :: s2 :: rest := by unfold lawBody; rw [hst]
  have hs : lawScope = scope := by unfold lawScope; rw [hst]
  have hr : lawRest = rest := by unfold lawRest; rw [hb]; rfl
  rw [hb, hs, ← hr]; exact h
theorem cast_sum : ∀ l : List Nat, (l.map fun x : Nat => (x : Int)).sum = ((l.sum : Nat) : Int)
  | [] => rfl
  | x :: l => by rw [List.map_cons, List.sum_cons, List.sum_cons, cast_sum l, Int.natCast_add]
theorem rhs_pow {p1 p2 p3 : Pos} {j1 j2 : Nat} : ∀ (c : FC) (env : Env) (s : Shared) (Q E : Value → Shared → Prop), (∀ t tk, Q (.int ((10 ^ 30 : Nat) : Int) t) { s with toks := tk }) → wpAny c.M c.A (eval (.BinOp (.Constant (.int 10) j1 p1) .Pow (.Constant (.int 30) j2 p2) p3) env) Q E s := by
  intro c env s Q E h
  refine wpAny_BinOp (wpAny_Constant_int (wpAny_Constant_int (pow_int (by decide) (by decide +kernel) ?_)))
  have e : (10 : Int) ^ (30 : Int).toNat = ((10 ^ 30 : Nat) : Int) := by decide +kernel
  rw [e]; exact h _ _
theorem rhs_three {p : Pos} {j : Nat} : ∀ (c : FC) (env : Env) (s : Shared) (Q E : Value → Shared → Prop), (∀ t tk, Q (.int ((3 : Nat) : Int) t) { s with toks := tk }) → wpAny c.M c.A (eval (.Constant (.int 3) j p) env) Q E s :=
  fun _ _ _ _ _ h => wpAny_Constant_int (h _ _)
theorem nats_of {nw : Led} {v : Value} {ns : List Int} {k : Nat} (D : DatIn nw v (.list ((ns.map fun a : Int => PyData.int ((a.natAbs % k : Nat) : Int)).map ofPyS))) : DatIn nw v (.list ((ns.map fun a : Int => a.natAbs % k).map fun x : Nat => Dat.int (x : Nat))) := by
  rw [List.map_map] at D ⊢
  exact D
section
variable {sc : Scope} {n : Nat}
theorem third_assign {c : FC} {m : Str → Option Value} {own news : Led} {s : Shared} {iter elt : Expr} {x y : Str} {px py pos spos p1 p2 p3 p4 : Pos} {j : Nat} {scope : Scope} {ns : List Int} {Q : Flow → Shared → Prop} {E : Value → Shared → Prop} (ok : c.Ok n) (hc : c.env.scope = sc) (F : Fr c.h₀ c.L s.heap m) (N : News c.h₀ c.L s.heap (own ++ news))
    (hs : nameIs sc (Str.ofString "sum") .globalImplicit = true) (hy : nameIs sc y .local = true) (hco : compOk scope x = true) (hi : notSet iter = true) (hl : ns.length ≤ 10000)
    (hit : Den c m own news (eval iter c.env) (fun nw v => DatIn nw v (.list (ns.map Dat.int))) s) (helt : ∀ a ∈ ns, EltOk elt scope x a (.int (a.natAbs % 3 : Nat)))
    (kk : ∀ h' tk' nw t, Fr c.h₀ c.L h' (fun z => if z = y then some (.int ((((ns.map fun a : Int => a.natAbs % 3).sum % 3 : Nat)) : Int) t) else m z) → News c.h₀ c.L h' (own ++ nw) → Ext own news nw → Q .next { s with heap := h', toks := tk' }) :
    wpAny c.M c.A (exec (.Assign [.Name y py] (.BinOp (.Call (.Name (Str.ofString "sum") p1) [.ListComp elt [⟨.Name x px, iter, [], 0⟩] scope pos] [] p2) .Mod (.Constant (.int 3) j p3) p4) spos) c.env) Q E s := by
  refine wpAny_Assign_Name (wpAny_BinOp (Call_ (Name_function_global ok.kf (by show c.env.scope.names.lookup _ = _; rw [hc]; exact nameIs_kind hs) (loadB ok F (by decide +kernel) boot_sum ?_) (nameIs_dbg hs)))) (swaps_plain rfl)
  refine callWith_builtin1 (spliced_more (comp_den ok hco hi hl hit helt _ _ fun v h1 t1 n1 F1 N1 X1 D1 => spliced_none ?_)) rfl rfl
  have D2 := nats_of D1
  have e : (ns.map fun a : Int => a.natAbs % 3).map (fun x : Nat => Dat.int (x : Nat)) = ((ns.map fun a : Int => a.natAbs % 3).map fun x : Nat => (x : Int)).map Dat.int := by rw [List.map_map (g := Dat.int)]; rfl
  rw [e] at D2
  refine PCall.sum (Ψ := fun d => d = .int (((ns.map fun a : Int => a.natAbs % 3).map fun x : Nat => (x : Int)).sum)) rfl n c _ m own n1 [v] ok F1 N1 (.cons D2 .nil) _ _ fun r h2 t2 n2 F2 N2 X2 ⟨d, A, ed⟩ => ?_
  subst ed
  obtain ⟨t, rfl⟩ : ∃ t, r = .int (((ns.map fun a : Int => a.natAbs % 3).map fun x : Nat => (x : Int)).sum) t := by cases A; exact ⟨_, rfl⟩
  rw [cast_sum]
  refine wpAny_Constant_int (mod_int' (by decide) ?_)
  rw [show ((ns.map fun a : Int => a.natAbs % 3).sum : Int).fmod (3 : Int) = (((ns.map fun a : Int => a.natAbs % 3).sum % 3 : Nat) : Int) from fmod_nat _ 3]
  refine store_ (ω := none) (ρ := []) (d := .int ((((ns.map fun a : Int => a.natAbs % 3).sum % 3 : Nat)) : Int)) (own := own) (news := n2) hc ok (show StO c none [] own n2 m h2 from ⟨F2, (fun _ _ e => nomatch e), N2⟩) hy rfl (.int _ _) fun h3 S3 => ?_
  exact kk h3 _ n2 _ S3.F S3.N (X1.trans X2)
end
theorem lawP_run {k : Nat} {ρ : Rho} {Ψ : Dat → Prop} {b : List Stmt} {sc : Scope} (h : LawP k ρ Ψ b sc) {c : FC} {s : Shared} {m : Str → Option Value} {own news : Led} {Q : Flow → Shared → Prop} {E : Value → Shared → Prop} (hc : c.env.scope = sc) (ok : c.Ok (k + 7)) (S : StO c none ρ own news m s.heap)
    (kk : ∀ v h' tk' m', Fr c.h₀ c.L h' m' → (∃ nw d, DatIn nw v d ∧ Ψ d) → Q (.ret v) { s with heap := h', toks := tk' }) (hn : ¬ Ψ .none) : wpAny c.M c.A (execs b c.env) Q E s := by
  refine h.ps c s m own news Q E hc ok S fun fl h' tk' m' nw' pf ω' ρ' S' X f p => ?_
  cases pf with
  | next => exact absurd (show Ψ .none from p) hn
  | ret d =>
    cases fl <;> first | exact (f : False).elim | exact kk _ h' tk' m' S'.F ⟨nw', d, f, p⟩
  | brk => exact (p : False).elim
  | cont => exact (p : False).elim
structure LawW (c : FC) (s : Shared) (Q : Flow → Shared → Prop) (E : Value → Shared → Prop) (b : List Stmt) (sc : Scope) : Prop where
  w : c.env.scope = sc → wpAny c.M c.A (execs b c.env) Q E s
theorem law_walk {c : FC} {s : Shared} {m : Str → Option Value} {a : Addr} {vs : List Value} {ns : List Int} {Q : Flow → Shared → Prop} {E : Value → Shared → Prop} (ok : c.Ok 7) (hsc : c.env.scope = lawScope) (F : Fr c.h₀ c.L s.heap m) (hm : m (Str.ofString "script") = some (.ref a)) (hL : c.h₀.IsList a vs.toArray) (hI : IntsAre vs ns) (hl : ns.length ≤ 10000)
    (fin : ∀ h' tk' m', Fr c.h₀ c.L h' m' → Q (.ret (.bool true)) { s with heap := h', toks := tk' }) : LawW c s Q E lawBody lawScope := by
  have R : ∀ (t : Nat) (sz : List Nat), t < 3 → (∀ x ∈ sz, x < 10 ^ 30) → ∀ ρ : Rho, ρ.lookup (Str.ofString "third") = some (.int (t : Nat)) → ρ.lookup (Str.ofString "sizes") = some (.list (sz.map fun x => .int (x : Nat))) → LawP 0 ρ (fun d => d = .bool true) lawRest lawScope := by
    intro t sz ht hsz ρ w1 w2
    exact law_rest t sz ht hsz w1 w2 rfl
  refine law_of2 (P := LawW c s Q E) rfl ?_
  refine ⟨fun hc => ?_⟩
  rw [hc] at hsc
  rw [← hsc] at R
  have N0 : News c.h₀ c.L s.heap ([] ++ []) := News.nil
  refine wpAny_execs_cons ?_
  refine comp_assign (g := fun a => .int (a.natAbs % 10 ^ 30 : Nat)) ok hc (by decide +kernel) rfl (show (ns.take 2).length ≤ 10000 by rw [List.length_take]; walk_at "ar") (by decide +kernel) (by decide +kernel) (by decide +kernel) (script_cut (k := 2) ok hc (by decide +kernel) F N0 hm hL hI hl)
    (fun a _ => elt_abs (by decide +kernel) (by decide +kernel) (by decide +kernel) (by decide) rhs_pow) fun D h1 t1 nw1 F1 N1 X1 D1 => ?_
  show wpAny c.M c.A (execs (_ :: lawRest) c.env) Q E _
  refine wpAny_execs_cons ?_
  have hm1 : (fun z => if z = Str.ofString "sizes" then some (.ref D) else m z) (Str.ofString "script") = some (.ref a) := by
    show (if Str.ofString "script" = Str.ofString "sizes" then _ else _) = _
    rw [if_neg (by decide +kernel)]; exact hm
  refine third_assign (s := { s with heap := h1, toks := t1 }) (ns := ns.take 5) ok hc F1 N1 (by decide +kernel) (by decide +kernel) (by decide +kernel) rfl (by rw [List.length_take]; walk_at "ar") (script_cut (k := 5) (s := { s with heap := h1, toks := t1 }) ok hc (by decide +kernel) F1 N1 hm1 hL hI hl)
    (fun a _ => elt_abs (by decide +kernel) (by decide +kernel) (by decide +kernel) (by decide) rhs_three) fun h2 t2 nw2 tk F2 N2 X2 => ?_
  show wpAny c.M c.A (execs lawRest c.env) Q E _
  have ht : ((ns.take 5).map fun a : Int => a.natAbs % 3).sum % 3 < 3 := Nat.mod_lt _ (by decide)
  generalize ((ns.take 5).map fun a : Int => a.natAbs % 3).sum % 3 = t at *
  have hz : ∀ x ∈ (ns.take 2).map (fun a : Int => a.natAbs % 10 ^ 30), x < 10 ^ 30 := by
    intro x hx
    obtain ⟨a, _, rfl⟩ := List.mem_map.mp hx
    exact Nat.mod_lt _ (by decide)
  have D2 := nats_of D1
  generalize (ns.take 2).map (fun a : Int => a.natAbs % 10 ^ 30) = sz at *
  have R1 := R t sz ht hz [(Str.ofString "third", .int t), (Str.ofString "sizes", .list (sz.map fun x => .int (x : Nat)))] (by walk_at "lk") (by walk_at "lk")
  have S2 : StO c none [(Str.ofString "third", .int t), (Str.ofString "sizes", .list (sz.map fun x => .int (x : Nat)))] [] nw2 _ h2 := ⟨F2, EnvIn.set (EnvIn.set (x := Str.ofString "sizes") (v := .ref D) (m := m) (fun _ _ e => nomatch e) (D2.mono X2.sub)) (.int _ _), N2⟩
  with_reducible refine lawP_run (s := { s with heap := h2, toks := t2 }) R1 hc ok S2 ?_ ?_
  · rintro v h' tk' m' F' ⟨nw, d, A, p⟩
    have p : d = .bool true := p
    subst p
    obtain rfl : v = Value.bool true := by cases A; rfl
    exact fin h' tk' m' F'
  · intro hh
    exact absurd (show (Dat.none) = .bool true from hh) (fun e => nomatch e)
theorem const_all {p : Program} (h : constNames.map (valOf p) = constNames.map (valOf pw)) : ∀ x ∈ constNames, valOf p x = valOf pw x := by
  generalize constNames = l at h
  induction l with
  | nil => intro x hx; cases hx
  | cons y l ih =>
    rw [List.map_cons, List.map_cons] at h
    obtain ⟨h1, h2⟩ := List.cons.inj h
    intro x hx
    rcases List.mem_cons.mp hx with rfl | hx
    · exact h1
    · exact ih h2 x hx
noncomputable def freeOk (p : Program) (loose : List Str) : Bool := builtinNames.all fun x => !startupNames.contains x && !loose.contains x && !((recsOf p).map (·.name)).contains x && !((litsOf p).map (·.1)).contains x && !((clssOf p loose).map (·.name)).contains x
theorem law_end {prog : Program} {w : World} {p : Program} {loose : List Str} {mean : ExcName → Option Value} {mg mb : Str → Option Value} {h₀ : Heap} {s : Shared} {fa : Addr} {cd : Value} {m : Str → Option Value} {a : Addr} {vs : List Value} {ns : List Int} {Q : Flow → Shared → Prop} {E : Value → Shared → Prop}
    (T : Top p loose mean mg mb h₀) (hfn : recsOf p = recsOf pw) (hcs : constNames.map (valOf p) = constNames.map (valOf pw)) (hfree : freeOk p loose = true) (K0 : Below callerA h₀ [] h₀) (F : Fr h₀ h₀.objs.size s.heap m) (hm : m (Str.ofString "script") = some (.ref a)) (hL : h₀.IsList a vs.toArray) (hI : IntsAre vs ns) (hl : ns.length ≤ 10000)
    (fin : ∀ h' tk' m', Fr h₀ h₀.objs.size h' m' → Q (.ret (.bool true)) { s with heap := h', toks := tk' }) :
    wpAny (model prog w) (callerA.deeper (envOf (Str.ofString "law") lawScope h₀.objs.size fa cd)) (execs lawBody (envOf (Str.ofString "law") lawScope h₀.objs.size fa cd)) Q E s := by
  have S : Static p mg := by
    refine ⟨fun d hd => by rw [hfn]; exact hd, fun x d hx => ?_, fun x hx => ?_⟩
    · unfold valC at hx
      split at hx
      · rename_i hc
        rw [const_all hcs x (by simpa using hc)]; exact hx
      · cases hx
    · have := List.all_eq_true.mp hfree x hx
      simp only [Bool.and_eq_true, Bool.not_eq_true', List.contains_eq_mem, decide_eq_false_iff_not] at this
      obtain ⟨⟨⟨⟨f1, f2⟩, f3⟩, f4⟩, f5⟩ := this
      exact T.free x f1 f2 f3 f4 f5
  have hk : lawScope.kind = .function := by decide +kernel
  let c : FC := { prog := prog, w := w, p := p, loose := loose, mean := mean, mg := mg, mb := mb, env := envOf (Str.ofString "law") lawScope h₀.objs.size fa cd, A := callerA.deeper (envOf (Str.ofString "law") lawScope h₀.objs.size fa cd), h₀ := h₀ }
  have ok : c.Ok 7 := ⟨T, S, hk, rfl, rfl, rfl, rfl, by show callerA.depth + 1 + 7 < _; decide +kernel, by show callerA.units + 3 + 8 * 7 + 100 < _; decide +kernel, fun _ => ⟨callerA, h₀, [], K0, rfl, rfl⟩⟩
  exact (law_walk (c := c) (E := E) ok rfl F hm hL hI hl fin).w rfl
end Mine
open PySem PySem.W PyProof.Rows
set_option maxHeartbeats 8000000 in
theorem PySem.Challenge.cw_nt0368_01_holds : PySem.Challenge.rw_nt0368_01.Holds := by
  w_on
  refine holds_law Mine.said fun said => ?_
  refine holds_open (q := Mine.view) (loose := Mine.looseN) (Xt := fun s => xlAt Mine.view [] s && recOk (RowW.records PySem.Challenge.rw_nt0368_01.row.toRowW) s) (XP := XL Mine.view []) (Yf := Hook.obs Hook.none) (Ya := Hook.val Hook.none) (YP := Hook.says Hook.none) (N := 4176) Mine.left (Hook.of Hook.none) (Hook.keeps Hook.none) (fun s e => xl_of s (Bool.and_eq_true_iff.mp e).1) XL.keeps (by rfl) (by rfl) (by rfl) (fun s e => recFacts_of (Bool.and_eq_true_iff.mp e).2) (by rfl) said (by decide +kernel) ⟨rfl, rfl, rfl, rfl, rfl, by decide +kernel⟩ ?hw ?hc
  case hw => w_witness2
  intro w s₀ s₁ mg mb G Y fa o pm cd doc dV kV ho hd hcd hD hmg hg args vals as hpre hlay hrd hwl hlo
  refine Ground.open G ?_
  intro T B D TE TW
  try (refine guard_noD D (by decide +kernel) ?_; clear D)
  obtain ⟨_, _, M⟩ := bmod_of_top T
  have TA := at_of_top T
  try (obtain ⟨_, _, he, B0⟩ := based_of_top T rfl hmg ho hd; have he' : cd = _ := he; subst he'; clear he)
  clear hmg
  wrow_args hpre hlay hrd hwl hlo
  first | refine callC_kw (enter_call ?_) | refine enter_call ?_ | refine callC_kw (enter_callW ?_) | refine enter_callW ?_ | w_how
  w_top on
  try refine codeAny_mono ?_ (fun _ _ g => GoodW.toG g)
  have K0 := below_caller (Top.heap T)
  w_call any ho hd hcd hD T F
  clear hd TA
  k_drop
  (with_reducible rename Top _ _ _ _ _ _ => T')
  (with_reducible rename Below _ _ _ _ => B')
  (with_reducible rename Fr _ _ _ _ => F')
  (with_reducible rename IntsAre _ _ => I')
  (rename Heap.IsList _ _ _ => L')
  refine Mine.law_end (s := ⟨_, _, _, _, _⟩) T' ?h1 ?h2 ?h3 B' F' ?h4 L' I' ?h5 ?h6
  case h1 => kernel_rfl
  case h2 => kernel_rfl
  case h3 => decide +kernel
  case h4 => rfl
  case h5 => lia
  case h6 =>
    intro h' tk' m' F2
    first | (k_end; wrow_close) | wrow_close
