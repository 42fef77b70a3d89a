import PyProof.Rows.All
import Wide.All
import OpenK.AllK
import Wide.FinOn
import PySem.Challenge.RW_sz0075_01
open PySem PySem.W PySem.Spec PySem.Calls PyProof.Rows
set_option Elab.async false
set_option linter.unusedSimpArgs false
set_option linter.unusedVariables false
set_option exponentiation.threshold 3000
set_option maxRecDepth 100000
namespace Mine
set_option maxHeartbeats 8000000
open_top hd for PySem.Challenge.rw_sz0075_01
section
noncomputable abbrev Prg : Program := PySem.Challenge.rw_sz0075_01.row.prog
noncomputable abbrev Lo : List Str := looseW hd.view_39 [Str.ofString "SIGN_BIT", Str.ofString "FRACTION_MASK", Str.ofString "HIDDEN_BIT", Str.ofString "ONE", Str.ofString "INF", Str.ofString "NAN"]
/-- a call of the def at f upon vs: what it needs of the state, and what it hands on -/
noncomputable abbrev Ct (w : World) (D : Nat) (f : Addr) (vs : List Value) (Ret : Heap → Addr → (Str → Option Value) → List (Addr × Obj) → Shared → (Value → Shared → Prop) → Prop) : Prop :=
  ∀ (mean : ExcName → Option Value) (mg mb : Str → Option Value) (dp un : Nat) (gd : Option (List Code)) (cn : Str) (cs : Scope) (a : Addr) (ccd : Value) (cl : List (Str × Addr)) (outer : List Env) (A₀ : Around) (base h₀ : Heap) (L : Addr) (m : Str → Option Value) (news : List (Addr × Obj)) (s : Shared) (Q E : Value → Shared → Prop),
    Below A₀ base outer h₀ → Fr h₀ L s.heap m → (hd.heap_39 w.params).In h₀ → News h₀ L s.heap news → Top hd.view_39 Lo mean mg mb h₀ → cs.kind = .function →
    dp + D < recursionLimit → un + 8 * D < cLine → Ret h₀ L m news s Q →
      wpAny (model Prg w) (ktrTop dp un gd cn cs L a ccd cl outer) (call (.ref f) vs) Q E s
noncomputable abbrev RI (r : Int) (h₀ : Heap) (L : Addr) (m : Str → Option Value) (news : List (Addr × Obj)) (s : Shared) (Q : Value → Shared → Prop) : Prop :=
  ∀ (t : Tok) (h' : Heap) (tk' : Nat), Fr h₀ L h' m → News h₀ L h' news → Q (.int r t) { s with heap := h', toks := tk' }
noncomputable abbrev RB (r : Bool) (h₀ : Heap) (L : Addr) (m : Str → Option Value) (news : List (Addr × Obj)) (s : Shared) (Q : Value → Shared → Prop) : Prop :=
  ∀ (h' : Heap) (tk' : Nat), Fr h₀ L h' m → News h₀ L h' news → Q (.bool r) { s with heap := h', toks := tk' }
noncomputable abbrev tup (vs : List Value) (c : Nat) : Obj := { cls := .type "tuple", data := .seq vs.toArray c }
noncomputable abbrev RT2 (r1 r2 : Int) (h₀ : Heap) (L : Addr) (m : Str → Option Value) (news : List (Addr × Obj)) (s : Shared) (Q : Value → Shared → Prop) : Prop :=
  ∀ (D : Addr) (t1 t2 : Tok) (c : Nat) (h' : Heap) (tk' : Nat), Fr h₀ L h' m → News h₀ L h' ((D, tup [.int r1 t1, .int r2 t2] c) :: news) → AllLt D news → Q (.ref D) { s with heap := h', toks := tk' }
noncomputable abbrev RT3 (r1 r2 r3 : Int) (h₀ : Heap) (L : Addr) (m : Str → Option Value) (news : List (Addr × Obj)) (s : Shared) (Q : Value → Shared → Prop) : Prop :=
  ∀ (D : Addr) (t1 t2 t3 : Tok) (c : Nat) (h' : Heap) (tk' : Nat), Fr h₀ L h' m → News h₀ L h' ((D, tup [.int r1 t1, .int r2 t2, .int r3 t3] c) :: news) → AllLt D news → Q (.ref D) { s with heap := h', toks := tk' }
theorem Ct.use {w : World} {D : Nat} {f : Addr} {vs : List Value} {Ret : Heap → Addr → (Str → Option Value) → List (Addr × Obj) → Shared → (Value → Shared → Prop) → Prop} (C : Ct w D f vs Ret)
    {mean : ExcName → Option Value} {mg mb : Str → Option Value} {dp un : Nat} {gd : Option (List Code)} {cn : Str} {cs : Scope} {a : Addr} {ccd : Value} {cl : List (Str × Addr)} {outer : List Env} {A₀ : Around} {base h₀ : Heap} {L : Addr} {m : Str → Option Value} {news : List (Addr × Obj)} {s : Shared} {Q E : Value → Shared → Prop}
    (B : Below A₀ base outer h₀) (F : Fr h₀ L s.heap m) (X : (hd.heap_39 w.params).In h₀) (N : News h₀ L s.heap news) (T : Top hd.view_39 Lo mean mg mb h₀) (hk : cs.kind = .function)
    (hd : dp + D < recursionLimit) (hu : un + 8 * D < cLine) (ret : Ret h₀ L m news s Q) :
    wpAny (model Prg w) (ktrTop dp un gd cn cs L a ccd cl outer) (call (.ref f) vs) Q E s := C _ _ _ _ _ _ _ _ _ _ _ _ _ _ _ _ _ _ _ _ _ B F X N T hk hd hu ret

end
section
section
variable {prog : Program} {w : World} {A : Around} {E : Value → Shared → Prop} {Q : Flow → Shared → Prop} {s : Shared} {env : Env} {h₀ : Heap} {target : Expr} {body : List Stmt}
/-- one turn's end of a folded loop -/
noncomputable def TurnEnd {S : Type} (h₀ : Heap) (L : Addr) (s : Shared) (its news : List (Addr × Obj)) (inv : S → (Str → Option Value) → Prop) (σ' : S) (fl : Flow) (s₃ : Shared) : Prop :=
  fl = .next ∧ ∃ h' tk' m', s₃ = { s with heap := h', toks := tk' } ∧ Fr h₀ L h' m' ∧ News h₀ L h' (its ++ news) ∧ inv σ' m'
theorem turnEnd {S : Type} {L : Addr} {its news news' : List (Addr × Obj)} {inv : S → (Str → Option Value) → Prop} {σ' : S} {h' : Heap} {tk' : Nat} {m' : Str → Option Value}
    (F : Fr h₀ L h' m') (N : News h₀ L h' news') (hn : ∀ p ∈ its ++ news, p ∈ news') (hi : inv σ' m') : TurnEnd h₀ L s its news inv σ' .next { s with heap := h', toks := tk' } :=
  ⟨rfl, h', tk', m', rfl, F, fun p hp => N p (hn p hp), hi⟩
theorem items_fold {S : Type} {I : Addr} {cls : String} {keep news : List (Addr × Obj)} (inv : S → (Str → Option Value) → Prop) (f : S → Int → S) (P : Int → Prop) (hk : SubL keep news) (hI : ∀ p ∈ news, p.1 < I)
    (turn : ∀ (st : Int) (t : Tok) (σ : S) (m : Str → Option Value) (h : Heap) (tk : Nat) (o : Obj), P st → inv σ m → Fr h₀ env.locals h m → News h₀ env.locals h ((I, o) :: news) →
      wpAny (model prog w) A (assign target env (.int st t)) (fun _ s₂ => wpAny (model prog w) A (execs body env) (TurnEnd h₀ env.locals s [(I, o)] news inv (f σ st)) E s₂) E { s with heap := h, toks := tk }) :
    ∀ (l : List (Int × Tok)) (σ : S) (m : Str → Option Value), (∀ x ∈ l, P x.1) → inv σ m →
      (∀ h tk m', inv ((l.map (·.1)).foldl f σ) m' → Fr h₀ env.locals h m' → News h₀ env.locals h news → Q .next { s with heap := h, toks := tk }) →
      ItemsRest prog w A E h₀ env target body Q s [(I, cls)] keep ((l.map fun x => Value.int x.1 x.2).map .val) m news
  | [], σ, m, _, hi, fin => ItemsRest.zero fun h tk F N => fin h tk m hi F N
  | (st, t) :: r, σ, m, hl, hi, fin => by
    refine ItemsRest.val fun h tk F => AllObj.cons fun o _ => AllObj.nil fun N => ?_
    refine wpAny_mono (turn st t σ m h tk o (hl _ (.head _)) hi F N) (fun _ s₂ p => wpAny_mono p (fun fl s₃ q => ?_) fun _ _ x => x) fun _ _ x => x
    obtain ⟨rfl, h', tk', m', rfl, F', N', hi'⟩ := q
    exact ⟨h', tk', m', news, rfl, F', N', fun p hp q hq e => by
      rw [List.mem_singleton.mp hq] at e
      exact absurd (hI p hp) (by rw [e]; exact Nat.lt_irrefl _), hk, items_fold inv f P hk hI turn r (f σ st) m' (fun x hx => hl x (.tail _ hx)) hi' fin⟩
end
/-- two names laid over a map -/
noncomputable def over2 (a b : Str) (x y : Value) (u : Str → Option Value) : Str → Option Value := fun z => if z = a then some x else if z = b then some y else u z
theorem over2_self {a b : Str} {x y : Value} {m : Str → Option Value} (h1 : m a = some x) (h2 : m b = some y) : m = over2 a b x y m := by
  funext z
  unfold over2
  by_cases h : z = a
  · rw [if_pos h, h, h1]
  · rw [if_neg h]
    by_cases h' : z = b
    · rw [if_pos h', h', h2]
    · rw [if_neg h']

end
section
/-- how many bits -/
noncomputable abbrev W (x : Int) : Nat := Builtin.Int.intBits x
theorem W_le {x : Int} {m : Nat} : W x ≤ m ↔ x.natAbs < 2 ^ m := intBits_le_iff
theorem W_fdiv {x : Int} (hx : 0 ≤ x) (k : Nat) : W (x.fdiv (2 ^ k)) = W x - k := by
  obtain ⟨n, rfl⟩ := Int.eq_ofNat_of_zero_le hx
  have e : (n : Int).fdiv (2 ^ k) = ((n / 2 ^ k : Nat) : Int) := by
    rw [Int.fdiv_eq_ediv_of_nonneg _ (Int.le_of_lt (kbt_pos k))]
    simp
  rw [e]
  have key : ∀ m, W ((n / 2 ^ k : Nat) : Int) ≤ m ↔ W (n : Int) ≤ m + k := by
    intro m
    rw [W_le, W_le, Int.natAbs_natCast, Int.natAbs_natCast, Nat.pow_add, Nat.div_lt_iff_lt_mul (Nat.two_pow_pos k)]
  have h1 := (key (W ((n / 2 ^ k : Nat) : Int))).mp (Nat.le_refl _)
  have h2 := (key (W (n : Int) - k)).mpr (by omega)
  omega
theorem W_gt {x : Int} {k : Nat} (hx : 2 ^ k ≤ x) : k < W x := by
  rcases Nat.lt_or_ge k (W x) with h | h
  · exact h
  · have h' := W_le.mp h
    have h2 : (x.natAbs : Int) < 2 ^ k := by exact_mod_cast h'
    have := kbt_pos k
    omega
theorem W_small {x : Int} (h0 : 0 ≤ x) (h1 : x < 2) : (W x : Int) = x := by
  have : x = 0 ∨ x = 1 := by omega
  rcases this with rfl | rfl <;> decide
theorem W_mul {x : Int} (hx : x ≠ 0) (k : Nat) : W (x * 2 ^ k) = W x + k := by
  have key : ∀ m, W (x * 2 ^ k) ≤ m + k ↔ W x ≤ m := by
    intro m
    rw [W_le, W_le, Int.natAbs_mul, Int.natAbs_pow, Nat.pow_add]
    exact Nat.mul_lt_mul_right (Nat.two_pow_pos k)
  have h1 := (key (W x)).mpr (Nat.le_refl _)
  have h3 : k ≤ W (x * 2 ^ k) := by
    rcases Nat.lt_or_ge (W (x * 2 ^ k)) k with h | h
    · have h4 := W_le.mp (Nat.le_of_lt h)
      rw [Int.natAbs_mul, Int.natAbs_pow] at h4
      have h5 : 1 ≤ x.natAbs := by omega
      have h6 : 1 * 2 ^ k ≤ x.natAbs * 2 ^ k := Nat.mul_le_mul_right _ h5
      simp at h4
      omega
    · exact h
  have h2 := (key (W (x * 2 ^ k) - k)).mp (by omega)
  omega
/-- one turn of width's second loop -/
noncomputable def widthTurn (σ : Int × Int) (st : Int) : Int × Int := if 1 * 2 ^ st.toNat ≤ σ.1 then (σ.1.fdiv (2 ^ st.toNat), σ.2 + st) else σ
theorem fdiv_pow_lt {x : Int} {k j : Nat} (h0 : 0 ≤ x) (h : x < 2 ^ (j + k)) : 0 ≤ x.fdiv (2 ^ k) ∧ x.fdiv (2 ^ k) < 2 ^ j := by
  rw [Int.fdiv_eq_ediv_of_nonneg _ (Int.le_of_lt (kbt_pos k))]
  refine ⟨Int.ediv_nonneg h0 (Int.le_of_lt (kbt_pos k)), ?_⟩
  apply Int.ediv_lt_of_lt_mul (kbt_pos k)
  rw [← Int.pow_add]
  exact h
theorem widthTurn_ok {σ : Int × Int} {y : Int} {st : Nat} (ha : 0 ≤ σ.1) (hlt : σ.1 < 2 ^ (st + st)) (hy : y = W σ.1 + σ.2) :
    0 ≤ (widthTurn σ st).1 ∧ (widthTurn σ st).1 < 2 ^ st ∧ y = W (widthTurn σ st).1 + (widthTurn σ st).2 := by
  unfold widthTurn
  rw [Int.toNat_natCast, Int.one_mul]
  by_cases h : (2 : Int) ^ st ≤ σ.1
  · rw [if_pos h]
    obtain ⟨h1, h2⟩ := fdiv_pow_lt ha hlt
    refine ⟨h1, h2, ?_⟩
    dsimp only
    rw [W_fdiv ha, hy]
    have := W_gt h
    omega
  · rw [if_neg h]
    exact ⟨ha, by omega, hy⟩
theorem width_fold {a b y : Int} (ha : 0 ≤ a) (hlt : a < 2 ^ 64) (hy : y = W a + b) {σ : Int × Int} (hs : σ = [32, 16, 8, 4, 2, 1].foldl widthTurn (a, b)) : σ.2 + σ.1 = y := by
  subst hs
  simp only [List.foldl]
  obtain ⟨a1, l1, e1⟩ := widthTurn_ok (σ := (a, b)) (st := 32) ha hlt hy
  obtain ⟨a2, l2, e2⟩ := widthTurn_ok (st := 16) a1 l1 e1
  obtain ⟨a3, l3, e3⟩ := widthTurn_ok (st := 8) a2 l2 e2
  obtain ⟨a4, l4, e4⟩ := widthTurn_ok (st := 4) a3 l3 e3
  obtain ⟨a5, l5, e5⟩ := widthTurn_ok (st := 2) a4 l4 e4
  obtain ⟨a6, l6, e6⟩ := widthTurn_ok (st := 1) a5 l5 e5
  have h := W_small a6 (by simpa using l6)
  rw [h] at e6
  exact (Int.add_comm _ _).trans e6.symm
theorem two64 : (2 : Int) ^ Int.toNat 64 = 18446744073709551616 := by decide
theorem bits64 {x y k : Int} (h : 0 ≤ x) (h1 : 1 * 2 ^ Int.toNat 64 ≤ x) (h2 : y = (W x : Int) + k) : 0 ≤ x.fdiv (2 ^ Int.toNat 64) ∧ y = (W (x.fdiv (2 ^ Int.toNat 64)) : Int) + (k + 64) := by
  have h3 : (2 : Int) ^ 64 ≤ x := by rw [two64] at h1; omega
  have h4 : W (x.fdiv (2 ^ Int.toNat 64)) = W x - 64 := W_fdiv h 64
  rw [h4, h2]
  have := W_gt (k := 64) (x := x) h3
  refine ⟨?_, by omega⟩
  rw [two64, Int.fdiv_eq_ediv_of_nonneg _ (by decide)]
  omega
theorem less64 {x : Int} (h : 0 ≤ x) (h1 : 1 * 2 ^ Int.toNat 64 ≤ x) : (x.fdiv (2 ^ Int.toNat 64)).toNat < x.toNat := by
  rw [two64] at *
  rw [Int.fdiv_eq_ediv_of_nonneg _ (by decide)]
  omega

end
section
section
variable {α : Type} {prog : Program} {w : World} {A : Around} {t : Sem α} {Q : α → Shared → Prop} {E : Value → Shared → Prop} {s : Shared} {h₀ : Heap} {L : Addr} {m : Str → Option Value} {news : List (Addr × Obj)}
theorem letA {M : Model} (h : let A' := A; wpAny M A' t Q E s) : wpAny M A t Q E s := h
variable {h₁ : Heap} {g : Array GenState} {d : Drawn} {tk : Nat} {o : OsState}
theorem letAll {M : Model} (h : let A' := A; let Q' := Q; let E' := E; wpAny M A' t Q' E' s) : wpAny M A t Q E s := h
theorem letQ {M : Model} (h : let Q' := Q; wpAny M A t Q' E s) : wpAny M A t Q E s := h
theorem room1 {dp D d : Nat} (h : dp + D < recursionLimit) (e : d + 1 ≤ D) : dp + 1 + d < recursionLimit := Nat.lt_of_le_of_lt (by rw [Nat.add_assoc, Nat.add_comm 1 d]; exact Nat.add_le_add_left e dp) h
theorem units1 {un D d : Nat} (h : un + 8 * D < cLine) (e : 3 + 8 * d ≤ 8 * D) : un + 3 + 8 * d < cLine := Nat.lt_of_le_of_lt (by rw [Nat.add_assoc]; exact Nat.add_le_add_left e un) h
/-- the frame's names by a short name -/
theorem letM {h : Heap} {G : Prop} (F : Fr h₀ L h m) (k : let m' := m; Fr h₀ L h m' → G) : G := k F
/-- the ways through t meet again: J says of the value and of the names what holds behind it -/
theorem joinS (J : α → (Str → Option Value) → Prop) (_ : Fr h₀ L h₁ m) (_ : News h₀ L h₁ news)
    (walk : ∀ Q' : α → Shared → Prop, (∀ v h' tk' m', Fr h₀ L h' m' → News h₀ L h' news → J v m' → Q' v ⟨h', g, d, tk', o⟩) → wpAny (model prog w) A t Q' E ⟨h₁, g, d, tk, o⟩)
    (rest : ∀ v h' tk' m', Fr h₀ L h' m' → News h₀ L h' news → J v m' → Q v ⟨h', g, d, tk', o⟩) : wpAny (model prog w) A t Q E ⟨h₁, g, d, tk, o⟩ := walk Q rest
theorem joinEnd {J : α → (Str → Option Value) → Prop} {Q' : α → Shared → Prop} (hJ : ∀ v h' tk' m', Fr h₀ L h' m' → News h₀ L h' news → J v m' → Q' v ⟨h', g, d, tk', o⟩)
    {v : α} {h' : Heap} {tk' : Nat} {m' : Str → Option Value} {news' : List (Addr × Obj)} (F : Fr h₀ L h' m') (N : News h₀ L h' news') (sub : ∀ p ∈ news, p ∈ news') (j : J v m') : Q' v ⟨h', g, d, tk', o⟩ :=
  hJ v h' tk' m' F (fun p hp => N p (sub p hp)) j
end
/-- four names laid over a map -/
noncomputable def over4 (a b c d : Str) (x y z v : Value) (u : Str → Option Value) : Str → Option Value := fun q => if q = a then some x else if q = b then some y else if q = c then some z else if q = d then some v else u q
theorem over4_twice {a b c d : Str} {x y z v x' y' z' v' : Value} {u : Str → Option Value} : over4 a b c d x y z v (over4 a b c d x' y' z' v' u) = over4 a b c d x y z v u := by
  funext q
  unfold over4
  split
  · rfl
  · split
    · rfl
    · split
      · rfl
      · split <;> rfl
noncomputable def over1 (a : Str) (x : Value) (u : Str → Option Value) : Str → Option Value := fun q => if q = a then some x else u q
theorem over1_self {a : Str} {x : Value} {m : Str → Option Value} (h : m a = some x) : m = over1 a x m := by
  funext q
  unfold over1
  by_cases hq : q = a
  · rw [if_pos hq, hq, h]
  · rw [if_neg hq]
/-- behind a statement that does not leave: these names are laid anew over u -/
noncomputable def J4 (a b c d : Str) (x y z v : Int) (u : Str → Option Value) (fl : Flow) (m' : Str → Option Value) : Prop := fl = Flow.next ∧ ∃ t1 t2 t3 t4, m' = over4 a b c d (.int x t1) (.int y t2) (.int z t3) (.int v t4) u
noncomputable def J1 (a : Str) (x : Int) (u : Str → Option Value) (fl : Flow) (m' : Str → Option Value) : Prop := fl = Flow.next ∧ ∃ t1, m' = over1 a (.int x t1) u
noncomputable def JV (r : Int) (m : Str → Option Value) (v : Value) (m' : Str → Option Value) : Prop := (∃ t, v = .int r t) ∧ m' = m
theorem J4.once {a b c d : Str} {x y z v : Int} {t1 t2 t3 t4 : Tok} {u : Str → Option Value} : J4 a b c d x y z v u .next (over4 a b c d (.int x t1) (.int y t2) (.int z t3) (.int v t4) u) := ⟨rfl, _, _, _, _, rfl⟩
theorem J4.twice {a b c d : Str} {x y z v : Int} {t1 t2 t3 t4 : Tok} {x' y' z' v' : Value} {u : Str → Option Value} : J4 a b c d x y z v u .next (over4 a b c d (.int x t1) (.int y t2) (.int z t3) (.int v t4) (over4 a b c d x' y' z' v' u)) := ⟨rfl, _, _, _, _, over4_twice⟩
theorem J1.once {a : Str} {x y : Int} {t1 : Tok} {u : Str → Option Value} (e : y = x) : J1 a x u .next (over1 a (.int y t1) u) := e ▸ ⟨rfl, _, rfl⟩
theorem J1.self {a : Str} {x y : Int} {t1 : Tok} {u : Str → Option Value} (e : y = x) (h : u a = some (.int y t1)) : J1 a x u .next u := ⟨rfl, _, over1_self (e ▸ h)⟩

end
section
section
variable {M : Model} {env : Env} {h₀ : Heap} {m : Str → Option Value} {A : Around}
/-- e stands for the value v within the frame m, nothing but the tokens turns -/
noncomputable def Ev (M : Model) (env : Env) (h₀ : Heap) (m : Str → Option Value) (e : Expr) (tk : Nat) (v : Value) (tk' : Nat) : Prop :=
  ∀ (A : Around) (Q E : Value → Shared → Prop) (h : Heap) (g : Array GenState) (d : Drawn) (o : OsState), Fr h₀ env.locals h m → Q v ⟨h, g, d, tk', o⟩ → wpAny M A (eval e env) Q E ⟨h, g, d, tk, o⟩
theorem Ev.name {x : Str} {p : Pos} {tk : Nat} {v : Value} (hv : m x = some v) (hk : env.scope.kind = .function) (hl : env.kindOf x = some .local) (hd : (x == ("__debug__" : Str)) = false := by decide) : Ev M env h₀ m (.Name x p) tk v tk :=
  fun _ _ _ _ _ _ _ F h => wpAny_Name (wpAny_loadName_local hk hl F.ns hv h) hd
theorem Ev.int {i : Int} {k : Nat} {p : Pos} {tk : Nat} : Ev M env h₀ m (.Constant (.int i) k p) tk (.int i tk) (tk + 1) :=
  fun _ _ _ _ _ _ _ _ h => wpAny_Constant_int h
theorem Ev.glob {K : Frag} {pr : Program} {loose : List Str} {mean : ExcName → Option Value} {mg mb : Str → Option Value} {x : Str} {p : Pos} {tk : Nat} {v : Value} (X : K.In h₀) (T : Top pr loose mean mg mb h₀) (e : nsIn K mainGlobals x = some (some v))
    (hk : env.scope.kind = .function) (hx : env.kindOf x = some .globalImplicit) (hg : env.globals = mainGlobals) (hd : (x == ("__debug__" : Str)) = false := by decide) : Ev M env h₀ m (.Name x p) tk v tk :=
  fun _ _ _ _ _ _ _ F h => Name_function_global hk hx (loadGlobal_global (hg ▸ T.g.keeps F.keep) (mg_of X T.g e) h) hd
variable {hp : Heap} {g : Array GenState} {d : Drawn} {o : OsState} {tk tk1 tk2 : Nat} {E : Value → Shared → Prop}
theorem Ev.bin2 {Q : Value → Shared → Prop} {l r : Expr} {op : Operator} {p : Pos} {a b : Value} (F : Fr h₀ env.locals hp m) (el : Ev M env h₀ m l tk a tk1) (er : Ev M env h₀ m r tk1 b tk2) (h : wpAny M A (binaryOp op a b) Q E ⟨hp, g, d, tk2, o⟩) :
    wpAny M A (eval (.BinOp l op r p) env) Q E ⟨hp, g, d, tk, o⟩ := wpAny_BinOp (el _ _ _ _ _ _ _ F (er _ _ _ _ _ _ _ F h))
theorem Ev.bin1 {Q : Value → Shared → Prop} {l r : Expr} {op : Operator} {p : Pos} {b : Value} (F : Fr h₀ env.locals hp m) (h : wpAny M A (eval l env) (fun a s₁ => wpAny M A (eval r env) (fun b s₂ => wpAny M A (binaryOp op a b) Q E s₂) E s₁) E ⟨hp, g, d, tk, o⟩) :
    wpAny M A (eval (.BinOp l op r p) env) Q E ⟨hp, g, d, tk, o⟩ := wpAny_BinOp h
theorem Ev.cmp2 {Q : Bool → Shared → Prop} {l r : Expr} {op : CmpOp} {p : Pos} {whole : Sem Value} {a b : Value} (F : Fr h₀ env.locals hp m) (el : Ev M env h₀ m l tk a tk1) (er : Ev M env h₀ m r tk1 b tk2)
    (h : wpAny M A (compareOp op a b) (fun c s₃ => wpAny M A (truthy c) Q E s₃) E ⟨hp, g, d, tk2, o⟩) (hm : behindInMarks op r = false) :
    wpAny M A (PySem.isTrue (.Compare l [op] [r] p) env whole) Q E ⟨hp, g, d, tk, o⟩ := wpAny_isTrue_Compare1 (el _ _ _ _ _ _ _ F (er _ _ _ _ _ _ _ F h)) hm
/-- a list of such -/
noncomputable def Evs (M : Model) (env : Env) (h₀ : Heap) (m : Str → Option Value) (es : List Expr) (tk : Nat) (vs : List Value) (tk' : Nat) : Prop :=
  ∀ (A : Around) (pos : Pos) (Q : List Value → Shared → Prop) (E : Value → Shared → Prop) (h : Heap) (g : Array GenState) (d : Drawn) (o : OsState), Fr h₀ env.locals h m → Q vs ⟨h, g, d, tk', o⟩ → wpAny M A (spliced (backTo pos (starEach es env))) Q E ⟨h, g, d, tk, o⟩
theorem Evs.nil : Evs M env h₀ m [] tk [] tk := fun _ _ _ _ _ _ _ _ _ h => PyProof.Rows.spliced_none h
theorem Evs.cons {e : Expr} {es : List Expr} {v : Value} {vs : List Value} (h1 : Ev M env h₀ m e tk v tk1) (h2 : Evs M env h₀ m es tk1 vs tk2) (he : starEach (e :: es) env = (false, eval e env) :: starEach es env := by rfl) : Evs M env h₀ m (e :: es) tk (v :: vs) tk2 :=
  fun _ _ _ _ _ _ _ _ F h => PyProof.Rows.spliced_more (h1 _ _ _ _ _ _ _ F (h2 _ _ _ _ _ _ _ _ F h)) he
theorem Evs.call {K : Frag} {pr : Program} {loose : List Str} {mean : ExcName → Option Value} {mg mb : Str → Option Value} {f : Str} {p pos : Pos} {fv : Value} {e : Expr} {es : List Expr} {vs : List Value} {Q : Value → Shared → Prop}
    (F : Fr h₀ env.locals hp m) (X : K.In h₀) (T : Top pr loose mean mg mb h₀) (e1 : nsIn K mainGlobals f = some (some fv)) (hkp : keepIn K fv = true) (hv : Evs M env h₀ m (e :: es) tk vs tk1)
    (h : wpAny M A (call fv vs) Q E ⟨hp, g, d, tk1, o⟩) (hk : env.scope.kind = .function) (hx : env.kindOf f = some .globalImplicit) (hg : env.globals = mainGlobals)
    (he : starEach (e :: es) env = (false, eval e env) :: starEach es env) (hplain : (backTo pos (starEach es env)).any (·.1) = false)
    (hd : (f == ("__debug__" : Str)) = false := by decide) : wpAny M A (eval (.Call (.Name f p) (e :: es) [] pos) env) Q E ⟨hp, g, d, tk, o⟩ := by
  refine Call_Name rfl (Ev.glob (M := M) (p := p) (tk := tk) X T e1 hk hx hg hd A _ E hp g d o F ?_)
  refine callWith_K X hkp (hv A pos _ E hp g d o F ⟨X.keeps F.keep, ?_⟩) he hplain
  exact h
end

end
section
theorem setEv2 : True := by
  k_with "ev" => (first | exact Ev.name rfl rfl rfl | exact Ev.int | exact Ev.glob (by k_asm) (by k_asm) (by k_is) rfl rfl rfl)
  k_with "evs" => (first | exact Evs.nil | exact Evs.cons (by k_extra "ev") (by k_extra "evs") rfl)
  trivial
theorem c_width (w : World) (n : Int) (t : Tok) (hn : 0 ≤ n) : Ct w 1 21 [.int n t] (RI (Builtin.Int.intBits n)) := by
  intro mean mg mb dp un gd cn cs a ccd cl outer A₀ base h₀ L m news s Q E B F X N T hk hdp hun hret
  refine wpAny_call ?_
  k_dflt cell_enter
  refine letA ?_; intro A1
  k_with "exec While Compare cons nil" => k_while_given ["n!"] (fun n₀ script n many => 0 ≤ n ∧ (Builtin.Int.intBits n₀ : Int) = Builtin.Int.intBits n + many) (fun n₀ script n many => n.toNat) "n" "many"
  k_with "state" => first | exact ⟨by assumption, by simp⟩ | exact bits64 (by assumption) (by assumption) (by assumption)
  k_with "measure" => exact less64 (by assumption) (by assumption)
  k_steps
  (with_reducible show wpAny _ _ (pyIter (Value.ref _)) (fun it s₂ => TurnsAt _ _ _ _ _ _ _ _ _ it s₂) _ _)
  (rename Fr _ _ _ _ => lF); (rename News _ _ _ _ => lN)
  refine iter_tupTurns (by rfl) lF lN (List.Mem.head _) rfl rfl (fun I hI => ?_)
  refine items_fold (S := Int × Int) (fun σ m => ∃ u tn tk, m = over2 (Str.ofString "n") (Str.ofString "many") (.int σ.1 tn) (.int σ.2 tk) u) widthTurn (fun st => 0 ≤ st ∧ st ≤ 32) (by exact And.intro (List.Mem.head _) trivial) hI ?_ [(32, _), (16, _), (8, _), (4, _), (2, _), (1, _)] (_, _) _ (by simp) ⟨_, _, _, over2_self rfl rfl⟩ ?_
  rotate_left
  (rintro h tk m ⟨u, tn, tk', rfl⟩ F N; (try dsimp only); try k_fold)
  rotate_left
  (rintro st t ⟨a, b⟩ m h tk o hP ⟨u, tn, tk', rfl⟩ F N; try k_fold)
  k_steps
  · have e : widthTurn (a, b) st = (a.fdiv (2 ^ st.toNat), b + st) := if_pos (by assumption)
    rw [e]
    refine turnEnd (by assumption) (by assumption) (fun _ h => h) ⟨_, _, _, over2_self rfl rfl⟩
  · have e : widthTurn (a, b) st = (a, b) := if_neg (by assumption)
    rw [e]
    refine turnEnd (by assumption) (by assumption) (fun _ h => h) ⟨_, _, _, over2_self rfl rfl⟩
  · refine cb_retI hret ?_ (by assumption) (cb_drop (by assumption) fun p h => List.mem_cons_of_mem _ h)
    exact width_fold (by assumption) (by have := two64; omega) (by assumption) rfl

end
section
section
variable {h₀ h' : Heap} {L : Addr} {m : Str → Option Value} {news news' : List (Addr × Obj)} {s : Shared} {Q : Value → Shared → Prop} {tk' : Nat}
theorem retI {x y : Int} {t : Tok} (hret : RI x h₀ L m news s Q) (F : Fr h₀ L h' m) (N : News h₀ L h' news') (hs : ∀ p ∈ news, p ∈ news') (e : y = x) : Q (.int y t) { s with heap := h', toks := tk' } := by
  subst e; exact hret t h' tk' F fun p hp => N p (hs p hp)
theorem retB {x y : Bool} (hret : RB x h₀ L m news s Q) (F : Fr h₀ L h' m) (N : News h₀ L h' news') (hs : ∀ p ∈ news, p ∈ news') (e : y = x) : Q (.bool y) { s with heap := h', toks := tk' } := by
  subst e; exact hret h' tk' F fun p hp => N p (hs p hp)
theorem retT3 {x1 y1 x2 y2 x3 y3 : Int} {t1 t2 t3 : Tok} {c : Nat} {D : Addr} (hret : RT3 x1 x2 x3 h₀ L m news s Q) (F : Fr h₀ L h' m) (N : News h₀ L h' news') (hD : (D, tup [.int y1 t1, .int y2 t2, .int y3 t3] c) ∈ news') (hs : ∀ p ∈ news, p ∈ news') (hl : AllLt D news)
    (e1 : y1 = x1) (e2 : y2 = x2) (e3 : y3 = x3) : Q (.ref D) { s with heap := h', toks := tk' } := by
  subst e1 e2 e3
  refine hret D t1 t2 t3 c h' tk' F (fun p hp => ?_) hl
  rcases List.mem_cons.mp hp with rfl | hp
  · exact N _ hD
  · exact N p (hs p hp)
theorem retT2 {x1 y1 x2 y2 : Int} {t1 t2 : Tok} {c : Nat} {D : Addr} (hret : RT2 x1 x2 h₀ L m news s Q) (F : Fr h₀ L h' m) (N : News h₀ L h' news') (hD : (D, tup [.int y1 t1, .int y2 t2] c) ∈ news') (hs : ∀ p ∈ news, p ∈ news') (hl : AllLt D news)
    (e1 : y1 = x1) (e2 : y2 = x2) : Q (.ref D) { s with heap := h', toks := tk' } := by
  subst e1 e2
  refine hret D t1 t2 c h' tk' F (fun p hp => ?_) hl
  rcases List.mem_cons.mp hp with rfl | hp
  · exact N _ hD
  · exact N p (hs p hp)
end
theorem mask63 (n : Int) : Builtin.bitAnd n (9223372036854775808 - 1) = n % 9223372036854775808 := kbt_mask n 63
theorem mask52 (n : Int) : Builtin.bitAnd n 4503599627370495 = n % 4503599627370496 := kbt_mask n 52
theorem mask11 (n : Int) : Builtin.bitAnd n 2047 = n % 2048 := kbt_mask n 11
structure Dbl (v s m x : Int) : Prop where
  s0 : 0 ≤ s
  s1 : s ≤ 1
  m0 : 4503599627370496 ≤ m
  m1 : m < 9007199254740992
  x0 : -1074 ≤ x
  x1 : x ≤ 971
  v : v = s * 9223372036854775808 + (x + 1075) * 4503599627370496 + (m - 4503599627370496)
theorem two52 : (2 : Int) ^ Int.toNat 52 = 4503599627370496 := by decide
theorem two63 : (2 : Int) ^ Int.toNat 63 = 9223372036854775808 := by decide
theorem Dbl.e1 {v s m x : Int} (h : Dbl v s m x) : v.fdiv (2 ^ Int.toNat 63) = s := by
  obtain ⟨s0, s1, m0, m1, x0, x1, rfl⟩ := h
  rw [two63, Int.fdiv_eq_ediv_of_nonneg _ (by decide)]
  omega
theorem Dbl.e2 {v s m x : Int} (h : Dbl v s m x) : Builtin.bitAnd (v.fdiv (2 ^ Int.toNat 52)) 2047 = x + 1075 := by
  obtain ⟨s0, s1, m0, m1, x0, x1, rfl⟩ := h
  rw [two52, Int.fdiv_eq_ediv_of_nonneg _ (by decide), mask11]
  omega
theorem Dbl.e3 {v s m x : Int} (h : Dbl v s m x) : Builtin.bitAnd v 4503599627370495 = m - 4503599627370496 := by
  obtain ⟨s0, s1, m0, m1, x0, x1, rfl⟩ := h
  rw [mask52]
  omega
theorem or_bit (f : Int) (k : Nat) (h0 : 0 ≤ f) (h1 : f < 2 ^ k) : Builtin.bitOr f (2 ^ k) = f + 2 ^ k := by
  rw [bitOr_and, kbt_bit]
  have : f / 2 ^ k = 0 := Int.ediv_eq_zero_of_lt h0 h1
  rw [this]
  simp
theorem Dbl.e4 {v s m x : Int} (h : Dbl v s m x) : Builtin.bitOr (Builtin.bitAnd v 4503599627370495) 4503599627370496 = m := by
  rw [h.e3]
  have e := or_bit (m - 4503599627370496) 52 (by have := h.m0; omega) (by have := h.m1; omega)
  have e' : Builtin.bitOr (m - 4503599627370496) 4503599627370496 = (m - 4503599627370496) + 4503599627370496 := e
  rw [e']
  omega
theorem c_is_nan (w : World) (n : Int) (t : Tok) : Ct w 1 42 [.int n t] (RB (decide (9218868437227405312 < n % 9223372036854775808))) := by
  intro mean mg mb dp un gd cn cs a ccd cl outer A₀ base h₀ L m news s Q E B F X N T hk hdp hun hret
  refine wpAny_call ?_
  k_dflt cell_enter
  refine letA ?_; intro A1
  (rename Fr _ _ _ _ => lF); refine letM lF ?_; clear lF; intro m9 lF
  repeat' (first | (k_unfold; (try dsimp only)) | (k_end; wrow_close) | ((with_reducible show wpAny _ _ (exec _ _) _ _ _); (try dsimp only); refine letQ ?_; intro Q8; walk1) | ((with_reducible show wpAny _ _ (eval (Expr.BinOp _ _ _ _) _) _ _ _); k_dflt (refine Ev.bin2 (by k_asm) (by k_extra "ev") (by k_extra "ev") ?_); k_whole) | ((with_reducible show wpAny _ _ (PySem.isTrue (Expr.Compare _ [_] [_] _) _ _) _ _ _); k_dflt (refine Ev.cmp2 (by k_asm) (by k_extra "ev") (by k_extra "ev") ?_ rfl); k_whole) | ((with_reducible show wpAny _ _ (eval (Expr.Call (Expr.Name _ _) (_ :: _) [] _) _) _ _ _); k_dflt (refine Evs.call (by k_asm) (by k_asm) (by k_asm) (by k_is) (by k_is) (by k_extra "evs") ?_ rfl rfl rfl rfl rfl); k_whole) | ((with_reducible show wpAny _ _ (storeName _ _ _) _ _ _); walk1; (rename Fr _ _ _ _ => lF); refine letM lF ?_; clear lF; intro m9 lF) | ((with_reducible show wpAny _ _ (binaryOp Operator.LShift (Value.int _ _) (Value.int _ _)) _ _ _); refine lshift_int (by first | with_reducible assumption | omega) (by first | with_reducible assumption | omega) ?_) | ((with_reducible show KswEnd _ _ _ _ _ _ _ _ _ _ _ _); (rename Fr _ _ _ _ => lF); (try dsimp +zetaDelta only at lF); (try dsimp +zetaDelta only); walk1) | (dsimp only; walk1) | walk1 | (leave1; try dsimp only) | fail "no step")
  all_goals (refine retB hret (by assumption) (by assumption) (fun _ h => h) ?_)
  rw [mask63]
theorem c_is_inf (w : World) (n : Int) (t : Tok) : Ct w 1 49 [.int n t] (RB (n % 9223372036854775808 == 9218868437227405312)) := by
  intro mean mg mb dp un gd cn cs a ccd cl outer A₀ base h₀ L m news s Q E B F X N T hk hdp hun hret
  refine wpAny_call ?_
  k_dflt cell_enter
  refine letA ?_; intro A1
  (rename Fr _ _ _ _ => lF); refine letM lF ?_; clear lF; intro m9 lF
  repeat' (first | (k_unfold; (try dsimp only)) | (k_end; wrow_close) | ((with_reducible show wpAny _ _ (exec _ _) _ _ _); (try dsimp only); refine letQ ?_; intro Q8; walk1) | ((with_reducible show wpAny _ _ (eval (Expr.BinOp _ _ _ _) _) _ _ _); k_dflt (refine Ev.bin2 (by k_asm) (by k_extra "ev") (by k_extra "ev") ?_); k_whole) | ((with_reducible show wpAny _ _ (PySem.isTrue (Expr.Compare _ [_] [_] _) _ _) _ _ _); k_dflt (refine Ev.cmp2 (by k_asm) (by k_extra "ev") (by k_extra "ev") ?_ rfl); k_whole) | ((with_reducible show wpAny _ _ (eval (Expr.Call (Expr.Name _ _) (_ :: _) [] _) _) _ _ _); k_dflt (refine Evs.call (by k_asm) (by k_asm) (by k_asm) (by k_is) (by k_is) (by k_extra "evs") ?_ rfl rfl rfl rfl rfl); k_whole) | ((with_reducible show wpAny _ _ (storeName _ _ _) _ _ _); walk1; (rename Fr _ _ _ _ => lF); refine letM lF ?_; clear lF; intro m9 lF) | ((with_reducible show wpAny _ _ (binaryOp Operator.LShift (Value.int _ _) (Value.int _ _)) _ _ _); refine lshift_int (by first | with_reducible assumption | omega) (by first | with_reducible assumption | omega) ?_) | ((with_reducible show KswEnd _ _ _ _ _ _ _ _ _ _ _ _); (rename Fr _ _ _ _ => lF); (try dsimp +zetaDelta only at lF); (try dsimp +zetaDelta only); walk1) | (dsimp only; walk1) | walk1 | (leave1; try dsimp only) | fail "no step")
  all_goals (refine retB hret (by assumption) (by assumption) (fun _ h => h) ?_)
  rw [mask63]
theorem c_is_finite (w : World) (n : Int) (t : Tok) : Ct w 1 56 [.int n t] (RB (decide (n % 9223372036854775808 < 9218868437227405312))) := by
  intro mean mg mb dp un gd cn cs a ccd cl outer A₀ base h₀ L m news s Q E B F X N T hk hdp hun hret
  refine wpAny_call ?_
  k_dflt cell_enter
  refine letA ?_; intro A1
  (rename Fr _ _ _ _ => lF); refine letM lF ?_; clear lF; intro m9 lF
  repeat' (first | (k_unfold; (try dsimp only)) | (k_end; wrow_close) | ((with_reducible show wpAny _ _ (exec _ _) _ _ _); (try dsimp only); refine letQ ?_; intro Q8; walk1) | ((with_reducible show wpAny _ _ (eval (Expr.BinOp _ _ _ _) _) _ _ _); k_dflt (refine Ev.bin2 (by k_asm) (by k_extra "ev") (by k_extra "ev") ?_); k_whole) | ((with_reducible show wpAny _ _ (PySem.isTrue (Expr.Compare _ [_] [_] _) _ _) _ _ _); k_dflt (refine Ev.cmp2 (by k_asm) (by k_extra "ev") (by k_extra "ev") ?_ rfl); k_whole) | ((with_reducible show wpAny _ _ (eval (Expr.Call (Expr.Name _ _) (_ :: _) [] _) _) _ _ _); k_dflt (refine Evs.call (by k_asm) (by k_asm) (by k_asm) (by k_is) (by k_is) (by k_extra "evs") ?_ rfl rfl rfl rfl rfl); k_whole) | ((with_reducible show wpAny _ _ (storeName _ _ _) _ _ _); walk1; (rename Fr _ _ _ _ => lF); refine letM lF ?_; clear lF; intro m9 lF) | ((with_reducible show wpAny _ _ (binaryOp Operator.LShift (Value.int _ _) (Value.int _ _)) _ _ _); refine lshift_int (by first | with_reducible assumption | omega) (by first | with_reducible assumption | omega) ?_) | ((with_reducible show KswEnd _ _ _ _ _ _ _ _ _ _ _ _); (rename Fr _ _ _ _ => lF); (try dsimp +zetaDelta only at lF); (try dsimp +zetaDelta only); walk1) | (dsimp only; walk1) | walk1 | (leave1; try dsimp only) | fail "no step")
  all_goals (refine retB hret (by assumption) (by assumption) (fun _ h => h) ?_)
  rw [mask63]
theorem c_is_zero (w : World) (n : Int) (t : Tok) : Ct w 1 63 [.int n t] (RB (n % 9223372036854775808 == 0)) := by
  intro mean mg mb dp un gd cn cs a ccd cl outer A₀ base h₀ L m news s Q E B F X N T hk hdp hun hret
  refine wpAny_call ?_
  k_dflt cell_enter
  refine letA ?_; intro A1
  (rename Fr _ _ _ _ => lF); refine letM lF ?_; clear lF; intro m9 lF
  repeat' (first | (k_unfold; (try dsimp only)) | (k_end; wrow_close) | ((with_reducible show wpAny _ _ (exec _ _) _ _ _); (try dsimp only); refine letQ ?_; intro Q8; walk1) | ((with_reducible show wpAny _ _ (eval (Expr.BinOp _ _ _ _) _) _ _ _); k_dflt (refine Ev.bin2 (by k_asm) (by k_extra "ev") (by k_extra "ev") ?_); k_whole) | ((with_reducible show wpAny _ _ (PySem.isTrue (Expr.Compare _ [_] [_] _) _ _) _ _ _); k_dflt (refine Ev.cmp2 (by k_asm) (by k_extra "ev") (by k_extra "ev") ?_ rfl); k_whole) | ((with_reducible show wpAny _ _ (eval (Expr.Call (Expr.Name _ _) (_ :: _) [] _) _) _ _ _); k_dflt (refine Evs.call (by k_asm) (by k_asm) (by k_asm) (by k_is) (by k_is) (by k_extra "evs") ?_ rfl rfl rfl rfl rfl); k_whole) | ((with_reducible show wpAny _ _ (storeName _ _ _) _ _ _); walk1; (rename Fr _ _ _ _ => lF); refine letM lF ?_; clear lF; intro m9 lF) | ((with_reducible show wpAny _ _ (binaryOp Operator.LShift (Value.int _ _) (Value.int _ _)) _ _ _); refine lshift_int (by first | with_reducible assumption | omega) (by first | with_reducible assumption | omega) ?_) | ((with_reducible show KswEnd _ _ _ _ _ _ _ _ _ _ _ _); (rename Fr _ _ _ _ => lF); (try dsimp +zetaDelta only at lF); (try dsimp +zetaDelta only); walk1) | (dsimp only; walk1) | walk1 | (leave1; try dsimp only) | fail "no step")
  all_goals (refine retB hret (by assumption) (by assumption) (fun _ h => h) ?_)
  rw [mask63]
theorem c_parts (w : World) (v s m x : Int) (t : Tok) (hv : Dbl v s m x) : Ct w 1 77 [.int v t] (RT3 s m x) := by
  intro mean mg mb dp un gd cn cs a ccd cl outer A₀ base h₀ L m news s Q E B F X N T hk hdp hun hret
  refine wpAny_call ?_
  k_dflt cell_enter
  refine letA ?_; intro A1
  (rename Fr _ _ _ _ => lF); refine letM lF ?_; clear lF; intro m9 lF
  repeat' (first | (k_unfold; (try dsimp only)) | (k_end; wrow_close) | ((with_reducible show wpAny _ _ (exec _ _) _ _ _); (try dsimp only); refine letQ ?_; intro Q8; walk1) | ((with_reducible show wpAny _ _ (eval (Expr.BinOp _ _ _ _) _) _ _ _); k_dflt (refine Ev.bin2 (by k_asm) (by k_extra "ev") (by k_extra "ev") ?_); k_whole) | ((with_reducible show wpAny _ _ (PySem.isTrue (Expr.Compare _ [_] [_] _) _ _) _ _ _); k_dflt (refine Ev.cmp2 (by k_asm) (by k_extra "ev") (by k_extra "ev") ?_ rfl); k_whole) | ((with_reducible show wpAny _ _ (eval (Expr.Call (Expr.Name _ _) (_ :: _) [] _) _) _ _ _); k_dflt (refine Evs.call (by k_asm) (by k_asm) (by k_asm) (by k_is) (by k_is) (by k_extra "evs") ?_ rfl rfl rfl rfl rfl); k_whole) | ((with_reducible show wpAny _ _ (storeName _ _ _) _ _ _); walk1; (rename Fr _ _ _ _ => lF); refine letM lF ?_; clear lF; intro m9 lF) | ((with_reducible show wpAny _ _ (binaryOp Operator.LShift (Value.int _ _) (Value.int _ _)) _ _ _); refine lshift_int (by first | with_reducible assumption | omega) (by first | with_reducible assumption | omega) ?_) | ((with_reducible show KswEnd _ _ _ _ _ _ _ _ _ _ _ _); (rename Fr _ _ _ _ => lF); (try dsimp +zetaDelta only at lF); (try dsimp +zetaDelta only); walk1) | (dsimp only; walk1) | walk1 | (leave1; try dsimp only) | fail "no step")
  · exfalso
    have := hv.e2
    have := hv.x0
    omega
  · exact retT3 hret (by assumption) (by assumption) (List.Mem.head _) (fun _ h => List.mem_cons_of_mem _ (List.mem_cons_of_mem _ h)) (And.right (by assumption)) hv.e1 hv.e4 (by have := hv.e2; omega)

end
section

theorem two1 : (2 : Int) ^ Int.toNat 1 = 2 := by decide
theorem c_signed (w : World) (s n : Int) (t u : Tok) (h0 : 0 ≤ s) (h1 : s ≤ 1) : Ct w 1 70 [.int s t, .int n u] (RI (Builtin.bitOr (n % 9223372036854775808) (s * 9223372036854775808))) := by
  intro mean mg mb dp un gd cn cs a ccd cl outer A₀ base h₀ L m news s Q E B F X N T hk hdp hun hret
  refine wpAny_call ?_
  k_dflt cell_enter
  refine letA ?_; intro A1
  (rename Fr _ _ _ _ => lF); refine letM lF ?_; clear lF; intro m9 lF
  repeat' (first | (k_unfold; (try dsimp only)) | (k_end; wrow_close) | ((with_reducible show wpAny _ _ (exec _ _) _ _ _); (try dsimp only); refine letQ ?_; intro Q8; walk1) | ((with_reducible show wpAny _ _ (eval (Expr.BinOp _ _ _ _) _) _ _ _); k_dflt (refine Ev.bin2 (by k_asm) (by k_extra "ev") (by k_extra "ev") ?_); k_whole) | ((with_reducible show wpAny _ _ (PySem.isTrue (Expr.Compare _ [_] [_] _) _ _) _ _ _); k_dflt (refine Ev.cmp2 (by k_asm) (by k_extra "ev") (by k_extra "ev") ?_ rfl); k_whole) | ((with_reducible show wpAny _ _ (eval (Expr.Call (Expr.Name _ _) (_ :: _) [] _) _) _ _ _); k_dflt (refine Evs.call (by k_asm) (by k_asm) (by k_asm) (by k_is) (by k_is) (by k_extra "evs") ?_ rfl rfl rfl rfl rfl); k_whole) | ((with_reducible show wpAny _ _ (storeName _ _ _) _ _ _); walk1; (rename Fr _ _ _ _ => lF); refine letM lF ?_; clear lF; intro m9 lF) | ((with_reducible show wpAny _ _ (binaryOp Operator.LShift (Value.int _ _) (Value.int _ _)) _ _ _); refine lshift_int (by first | with_reducible assumption | omega) (by first | with_reducible assumption | omega) ?_) | ((with_reducible show KswEnd _ _ _ _ _ _ _ _ _ _ _ _); (rename Fr _ _ _ _ => lF); (try dsimp +zetaDelta only at lF); (try dsimp +zetaDelta only); walk1) | (dsimp only; walk1) | walk1 | (leave1; try dsimp only) | fail "no step")
  all_goals (refine retI hret (by assumption) (by assumption) (fun _ h => h) ?_)
  rw [mask63, two63]
noncomputable def pk (s e f : Int) : Int := Builtin.bitOr (Builtin.bitOr (s * 9223372036854775808) (e * 4503599627370496)) f
theorem c_pack (w : World) (s e f : Int) (t u v : Tok) (h0 : 0 ≤ s) (h1 : s ≤ 1) (he0 : -9000 ≤ e) (he1 : e ≤ 9000) : Ct w 1 28 [.int s t, .int e u, .int f v] (RI (pk s e f)) := by
  intro mean mg mb dp un gd cn cs a ccd cl outer A₀ base h₀ L m news s Q E B F X N T hk hdp hun hret
  refine wpAny_call ?_
  k_dflt cell_enter
  refine letA ?_; intro A1
  (rename Fr _ _ _ _ => lF); refine letM lF ?_; clear lF; intro m9 lF
  repeat' (first | (k_unfold; (try dsimp only)) | (k_end; wrow_close) | ((with_reducible show wpAny _ _ (exec _ _) _ _ _); (try dsimp only); refine letQ ?_; intro Q8; walk1) | ((with_reducible show wpAny _ _ (eval (Expr.BinOp _ _ _ _) _) _ _ _); k_dflt (refine Ev.bin2 (by k_asm) (by k_extra "ev") (by k_extra "ev") ?_); k_whole) | ((with_reducible show wpAny _ _ (PySem.isTrue (Expr.Compare _ [_] [_] _) _ _) _ _ _); k_dflt (refine Ev.cmp2 (by k_asm) (by k_extra "ev") (by k_extra "ev") ?_ rfl); k_whole) | ((with_reducible show wpAny _ _ (eval (Expr.Call (Expr.Name _ _) (_ :: _) [] _) _) _ _ _); k_dflt (refine Evs.call (by k_asm) (by k_asm) (by k_asm) (by k_is) (by k_is) (by k_extra "evs") ?_ rfl rfl rfl rfl rfl); k_whole) | ((with_reducible show wpAny _ _ (storeName _ _ _) _ _ _); walk1; (rename Fr _ _ _ _ => lF); refine letM lF ?_; clear lF; intro m9 lF) | ((with_reducible show wpAny _ _ (binaryOp Operator.LShift (Value.int _ _) (Value.int _ _)) _ _ _); refine lshift_int (by first | with_reducible assumption | omega) (by first | with_reducible assumption | omega) ?_) | ((with_reducible show KswEnd _ _ _ _ _ _ _ _ _ _ _ _); (rename Fr _ _ _ _ => lF); (try dsimp +zetaDelta only at lF); (try dsimp +zetaDelta only); walk1) | (dsimp only; walk1) | walk1 | (leave1; try dsimp only) | fail "no step")
  all_goals (refine retI hret (by assumption) (by assumption) (fun _ h => h) ?_)
  rw [two63, two52, pk]
noncomputable def asm' (s w p : Int) : Int := if w < 4503599627370496 then Builtin.bitOr (s * 9223372036854775808) w else if 2047 ≤ p + 1075 then Builtin.bitOr (9218868437227405312 % 9223372036854775808) (s * 9223372036854775808) else pk s (p + 1075) (w - 4503599627370496)
noncomputable def asm (s w p : Int) : Int := if w = 9007199254740992 then asm' s 4503599627370496 (p + 1) else asm' s w p
theorem c_assembled (w : World) (s n p : Int) (t u v : Tok) (h0 : 0 ≤ s) (h1 : s ≤ 1) (hp0 : -2000 ≤ p) (hp1 : p ≤ 5000) : Ct w 2 105 [.int s t, .int n u, .int p v] (RI (asm s n p)) := by
  intro mean mg mb dp un gd cn cs a ccd cl outer A₀ base h₀ L m news s Q E B F X N T hk hdp hun hret
  refine wpAny_call ?_
  k_dflt cell_enter
  refine letA ?_; intro A1
  (rename Fr _ _ _ _ => lF); refine letM lF ?_; clear lF; intro m9 lF
  k_with "call ref" => (refine Ct.use (c_pack w _ _ _ _ _ _ (by assumption) (by assumption) (by omega) (by omega)) (by k_asm) (by k_asm) (by k_asm) (by k_asm) (by k_asm) (by first | exact rfl | assumption) (by first | exact room1 hdp (by decide) | ktr_room) (by first | exact units1 hun (by decide) | ktr_units) ?_; intro t9 h9 tk9 F9 N9; (try dsimp only); (try k_sweep); (try k_fold))
  k_with "call ref" => (refine Ct.use (c_signed w _ _ _ _ (by assumption) (by assumption)) (by k_asm) (by k_asm) (by k_asm) (by k_asm) (by k_asm) (by first | exact rfl | assumption) (by first | exact room1 hdp (by decide) | ktr_room) (by first | exact units1 hun (by decide) | ktr_units) ?_; intro t9 h9 tk9 F9 N9; (try dsimp only); (try k_sweep); (try k_fold))
  repeat' (first | (k_unfold; (try dsimp only)) | (k_end; wrow_close) | ((with_reducible show wpAny _ _ (exec _ _) _ _ _); (try dsimp only); refine letQ ?_; intro Q8; walk1) | ((with_reducible show wpAny _ _ (eval (Expr.BinOp _ _ _ _) _) _ _ _); k_dflt (refine Ev.bin2 (by k_asm) (by k_extra "ev") (by k_extra "ev") ?_); k_whole) | ((with_reducible show wpAny _ _ (PySem.isTrue (Expr.Compare _ [_] [_] _) _ _) _ _ _); k_dflt (refine Ev.cmp2 (by k_asm) (by k_extra "ev") (by k_extra "ev") ?_ rfl); k_whole) | ((with_reducible show wpAny _ _ (eval (Expr.Call (Expr.Name _ _) (_ :: _) [] _) _) _ _ _); k_dflt (refine Evs.call (by k_asm) (by k_asm) (by k_asm) (by k_is) (by k_is) (by k_extra "evs") ?_ rfl rfl rfl rfl rfl); k_whole) | ((with_reducible show wpAny _ _ (storeName _ _ _) _ _ _); walk1; (rename Fr _ _ _ _ => lF); refine letM lF ?_; clear lF; intro m9 lF) | ((with_reducible show wpAny _ _ (binaryOp Operator.LShift (Value.int _ _) (Value.int _ _)) _ _ _); refine lshift_int (by first | with_reducible assumption | omega) (by first | with_reducible assumption | omega) ?_) | ((with_reducible show KswEnd _ _ _ _ _ _ _ _ _ _ _ _); (rename Fr _ _ _ _ => lF); (try dsimp +zetaDelta only at lF); (try dsimp +zetaDelta only); walk1) | (dsimp only; walk1) | walk1 | (leave1; try dsimp only) | fail "no step")
  all_goals (refine retI hret (by assumption) (by assumption) (by intro p h; simp only [List.mem_cons, h, or_true]) ?_)
  all_goals (have e1 := two1; have e63 := two63; unfold asm asm')
  all_goals (try rw [e63])
  all_goals ((repeat' split) <;> first | rfl | omega | (rename_i h; subst h; rfl))

end
section

noncomputable def qB (bot p : Int) : Int := if 0 ≤ p then bot * 2 ^ p.toNat else bot
noncomputable def qT (top p : Int) : Int := if 0 ≤ p then top else top * 2 ^ (-p).toNat
theorem log2_lt {x : Int} (h : W x ≤ 8000) : x.natAbs.log2 < 9000 := by
  have h1 := W_le.mp h
  by_cases h0 : x.natAbs = 0
  · rw [h0]; decide
  · exact (Nat.log2_lt h0).mpr (Nat.lt_of_lt_of_le h1 (Nat.pow_le_pow_right (by decide) (by decide)))
theorem shl_pos {b : Int} (k : Nat) (h : 0 < b) : 0 < b * 2 ^ k := Int.mul_pos h (kbt_pos k)
theorem shl_log {b p : Int} (h : 0 < b) (hW : W b ≤ 4000) (h1 : p ≤ 4000) : (b * 2 ^ p.toNat).natAbs.log2 < 9000 := by
  refine log2_lt ?_
  rw [W_mul (by omega)]
  omega
theorem c_quotient (w : World) (top bot p : Int) (t u v : Tok) (hb : 0 < bot) (hT : Builtin.Int.intBits top ≤ 4000) (hB : Builtin.Int.intBits bot ≤ 4000) (hp0 : -4000 ≤ p) (hp1 : p ≤ 4000) :
    Ct w 1 91 [.int top t, .int bot u, .int p v] (RT3 ((qT top p).fdiv (qB bot p)) ((qT top p).fmod (qB bot p)) (qB bot p)) := by
  intro mean mg mb dp un gd cn cs a ccd cl outer A₀ base h₀ L m news s Q E B F X N T hk hdp hun hret
  refine wpAny_call ?_
  k_dflt cell_enter
  refine letA ?_; intro A1
  (rename Fr _ _ _ _ => lF); refine letM lF ?_; clear lF; intro m9 lF
  k_with "binaryOp FloorDiv int int" => first
    | (refine floordiv_int (Int.ne_of_gt (shl_pos _ hb)) ?_ (Or.inl (PyProof.noPylong_of_log2 (shl_log hb hB hp1))))
    | (refine floordiv_int (Int.ne_of_gt hb) ?_ (Or.inl (PyProof.noPylong_of_log2 (log2_lt (Nat.le_trans hB (by decide))))))
  k_with "binaryOp Mod int int" => first
    | (refine mod_int' (Int.ne_of_gt (shl_pos _ hb)) ?_)
    | (refine mod_int' (Int.ne_of_gt hb) ?_)
  repeat' (first | (k_unfold; (try dsimp only)) | (k_end; wrow_close) | ((with_reducible show wpAny _ _ (exec _ _) _ _ _); (try dsimp only); refine letQ ?_; intro Q8; walk1) | ((with_reducible show wpAny _ _ (eval (Expr.BinOp _ _ _ _) _) _ _ _); k_dflt (refine Ev.bin2 (by k_asm) (by k_extra "ev") (by k_extra "ev") ?_); k_whole) | ((with_reducible show wpAny _ _ (PySem.isTrue (Expr.Compare _ [_] [_] _) _ _) _ _ _); k_dflt (refine Ev.cmp2 (by k_asm) (by k_extra "ev") (by k_extra "ev") ?_ rfl); k_whole) | ((with_reducible show wpAny _ _ (eval (Expr.Call (Expr.Name _ _) (_ :: _) [] _) _) _ _ _); k_dflt (refine Evs.call (by k_asm) (by k_asm) (by k_asm) (by k_is) (by k_is) (by k_extra "evs") ?_ rfl rfl rfl rfl rfl); k_whole) | ((with_reducible show wpAny _ _ (storeName _ _ _) _ _ _); walk1; (rename Fr _ _ _ _ => lF); refine letM lF ?_; clear lF; intro m9 lF) | ((with_reducible show wpAny _ _ (binaryOp Operator.LShift (Value.int _ _) (Value.int _ _)) _ _ _); refine lshift_int (by first | with_reducible assumption | omega) (by first | with_reducible assumption | omega) ?_) | ((with_reducible show KswEnd _ _ _ _ _ _ _ _ _ _ _ _); (rename Fr _ _ _ _ => lF); (try dsimp +zetaDelta only at lF); (try dsimp +zetaDelta only); walk1) | (dsimp only; walk1) | walk1 | (leave1; try dsimp only) | fail "no step")
  all_goals (refine retT3 hret (by assumption) (by assumption) (by exact List.Mem.head _) (by intro p h; simp only [List.mem_cons, h, or_true]) (by first | exact allLt_of (by assumption) | exact And.right (by assumption)) ?_ ?_ ?_)
  all_goals (first | rw [qB, qT, if_pos (by assumption), if_pos (by assumption)] | rw [qB, qT, if_neg (by assumption), if_neg (by assumption)] | rw [qB, if_pos (by assumption)] | rw [qB, if_neg (by assumption)])

end
section

noncomputable def rp0 (top bot : Int) : Int := if -1074 > (Builtin.Int.intBits top : Int) - Builtin.Int.intBits bot - 53 then -1074 else (Builtin.Int.intBits top : Int) - Builtin.Int.intBits bot - 53
noncomputable def rp (top bot : Int) : Int := if 4503599627370496 * 2 ^ Int.toNat 1 ≤ (qT top (rp0 top bot)).fdiv (qB bot (rp0 top bot)) then rp0 top bot + 1 else rp0 top bot
noncomputable def up (top bot p : Int) : Int := if qB bot p < 2 * (qT top p).fmod (qB bot p) then (qT top p).fdiv (qB bot p) + 1 else if 2 * (qT top p).fmod (qB bot p) = qB bot p then (if ((qT top p).fdiv (qB bot p)).fmod 2 = 1 then (qT top p).fdiv (qB bot p) + 1 else (qT top p).fdiv (qB bot p)) else (qT top p).fdiv (qB bot p)
noncomputable def rr (s top bot : Int) : Int := asm s (up top bot (rp top bot)) (rp top bot)
theorem rp0_range {top bot : Int} (hT : Builtin.Int.intBits top ≤ 2000) (hB : Builtin.Int.intBits bot ≤ 2000) : -4000 ≤ rp0 top bot ∧ rp0 top bot ≤ 3000 := by unfold rp0; split <;> omega
theorem rp_range {top bot : Int} (hT : Builtin.Int.intBits top ≤ 2000) (hB : Builtin.Int.intBits bot ≤ 2000) : -2000 ≤ rp top bot ∧ rp top bot ≤ 5000 := by
  have h1 := (rp0_range hT hB).2
  have h2 : -1074 ≤ rp0 top bot := by unfold rp0; split <;> omega
  unfold rp
  split <;> exact ⟨by omega, by omega⟩
theorem c_round_ratio (w : World) (s top bot : Int) (t u v : Tok) (hs0 : 0 ≤ s) (hs1 : s ≤ 1) (ht : 0 < top) (hb : 0 < bot) (hT : Builtin.Int.intBits top ≤ 2000) (hB : Builtin.Int.intBits bot ≤ 2000) :
    Ct w 3 98 [.int s t, .int top u, .int bot v] (RI (rr s top bot)) := by
  intro mean mg mb dp un gd cn cs a ccd cl outer A₀ base h₀ L m news s Q E B F X N T hk hdp hun hret
  refine wpAny_call ?_
  k_dflt cell_enter
  refine letA ?_; intro A1
  (rename Fr _ _ _ _ => lF); refine letM lF ?_; clear lF; intro m9 lF
  refine letA ?_; intro A1
  k_with "call ref" => (refine Ct.use (c_width w _ _ (by omega)) (by k_asm) (by k_asm) (by k_asm) (by k_asm) (by k_asm) (by first | exact rfl | assumption) (by first | exact room1 hdp (by decide) | ktr_room) (by first | exact units1 hun (by decide) | ktr_units) ?_; intro t9 h9 tk9 F9 N9; (try dsimp only); (try k_sweep); (try k_fold))
  have hq : -4000 ≤ rp0 top bot ∧ rp0 top bot ≤ 3000 := rp0_range hT hB
  k_with "call ref" => first
    | (refine Ct.use (c_quotient w _ _ _ _ _ _ hb (Nat.le_trans hT (by decide)) (Nat.le_trans hB (by decide)) hq.1 (Int.le_trans hq.2 (by decide))) (by k_asm) (by k_asm) (by k_asm) (by k_asm) (by k_asm) (by first | exact rfl | assumption) (by first | exact room1 hdp (by decide) | ktr_room) (by first | exact units1 hun (by decide) | ktr_units) ?_; intro D9 tok1 tok2 tok3 c9 h9 tk9 F9 N9 l9; (try simp only [AllLt, and_true] at l9); (try dsimp only); (try k_sweep); (try k_fold))
    | (refine Ct.use (c_quotient w _ _ _ _ _ _ hb (Nat.le_trans hT (by decide)) (Nat.le_trans hB (by decide)) (Int.le_trans hq.1 (Int.le_add_of_nonneg_right (by decide))) (Int.le_trans (Int.add_le_add_right hq.2 1) (by decide))) (by k_asm) (by k_asm) (by k_asm) (by k_asm) (by k_asm) (by first | exact rfl | assumption) (by first | exact room1 hdp (by decide) | ktr_room) (by first | exact units1 hun (by decide) | ktr_units) ?_; intro D9 tok1 tok2 tok3 c9 h9 tk9 F9 N9 l9; (try simp only [AllLt, and_true] at l9); (try dsimp only); (try k_sweep); (try k_fold))
  repeat' (first
    | (k_unfold; (try dsimp only))
    | (k_end; wrow_close) | ((with_reducible show wpAny _ _ (eval (Expr.BinOp _ _ _ _) _) _ _ _); k_dflt (refine Ev.bin2 (by k_asm) (by k_extra "ev") (by k_extra "ev") ?_); k_whole) | ((with_reducible show wpAny _ _ (PySem.isTrue (Expr.Compare _ [_] [_] _) _ _) _ _ _); k_dflt (refine Ev.cmp2 (by k_asm) (by k_extra "ev") (by k_extra "ev") ?_ rfl); k_whole) | ((with_reducible show wpAny _ _ (eval (Expr.Call (Expr.Name _ _) (_ :: _) [] _) _) _ _ _); k_dflt (refine Evs.call (by k_asm) (by k_asm) (by k_asm) (by k_is) (by k_is) (by k_extra "evs") ?_ rfl rfl rfl rfl rfl); k_whole) | ((with_reducible show wpAny _ _ (storeName _ _ _) _ _ _); walk1; (rename Fr _ _ _ _ => lF); refine letM lF ?_; clear lF; intro m9 lF) | ((with_reducible show wpAny _ _ (binaryOp Operator.LShift (Value.int _ _) (Value.int _ _)) _ _ _); refine lshift_int (by first | with_reducible assumption | omega) (by first | with_reducible assumption | omega) ?_)
    | ((fail_if_success (with_reducible show wpAny _ _ (exec (Stmt.If (Expr.Compare _ [CmpOp.GtE] _ _) _ _ _) _) _ _ _)); first | (dsimp only; walk1) | walk1)
    | fail "no step")
  · exfalso; omega
  (rename Fr _ _ _ _ => jF); (rename News _ _ _ _ => jN)
  refine' joinS (J4 (Str.ofString "unit") (Str.ofString "rest") (Str.ofString "whole") (Str.ofString "power") (qB bot (rp top bot)) ((qT top (rp top bot)).fmod (qB bot (rp top bot))) ((qT top (rp top bot)).fdiv (qB bot (rp top bot))) (rp top bot) ?ju) jF jN ?ja ?jb
  rotate_left
  · intro Q9 hQ
    repeat' (first
      | (k_unfold; (try dsimp only))
      | (k_end; wrow_close) | ((with_reducible show wpAny _ _ (eval (Expr.BinOp _ _ _ _) _) _ _ _); k_dflt (refine Ev.bin2 (by k_asm) (by k_extra "ev") (by k_extra "ev") ?_); k_whole) | ((with_reducible show wpAny _ _ (PySem.isTrue (Expr.Compare _ [_] [_] _) _ _) _ _ _); k_dflt (refine Ev.cmp2 (by k_asm) (by k_extra "ev") (by k_extra "ev") ?_ rfl); k_whole) | ((with_reducible show wpAny _ _ (eval (Expr.Call (Expr.Name _ _) (_ :: _) [] _) _) _ _ _); k_dflt (refine Evs.call (by k_asm) (by k_asm) (by k_asm) (by k_is) (by k_is) (by k_extra "evs") ?_ rfl rfl rfl rfl rfl); k_whole) | ((with_reducible show wpAny _ _ (storeName _ _ _) _ _ _); walk1; (rename Fr _ _ _ _ => lF); refine letM lF ?_; clear lF; intro m9 lF) | ((with_reducible show wpAny _ _ (binaryOp Operator.LShift (Value.int _ _) (Value.int _ _)) _ _ _); refine lshift_int (by first | with_reducible assumption | omega) (by first | with_reducible assumption | omega) ?_)
      | (dsimp only; walk1) | walk1
      | fail "no step")
    · rw [show rp top bot = rp0 top bot + 1 from if_pos (by assumption)] at hQ
      exact joinEnd hQ (by k_asm) (by k_asm) (by intro p h; simp only [List.mem_cons, h, or_true]) J4.twice
    · rw [show rp top bot = rp0 top bot from if_neg (by assumption)] at hQ
      exact joinEnd hQ (by k_asm) (by k_asm) (fun p h => h) J4.once
  rintro v h' tk' m' F' N' ⟨rfl, t1, t2, t3, t4, rfl⟩
  refine letM F' ?_; clear F'; intro m9 F'
  (try dsimp only); (try k_sweep); (try k_fold)
  repeat' (first
    | (k_unfold; (try dsimp only))
    | (k_end; wrow_close) | ((with_reducible show wpAny _ _ (eval (Expr.BinOp _ _ _ _) _) _ _ _); k_dflt (refine Ev.bin2 (by k_asm) (by k_extra "ev") (by k_extra "ev") ?_); k_whole) | ((with_reducible show wpAny _ _ (PySem.isTrue (Expr.Compare _ [_] [_] _) _ _) _ _ _); k_dflt (refine Ev.cmp2 (by k_asm) (by k_extra "ev") (by k_extra "ev") ?_ rfl); k_whole) | ((with_reducible show wpAny _ _ (eval (Expr.Call (Expr.Name _ _) (_ :: _) [] _) _) _ _ _); k_dflt (refine Evs.call (by k_asm) (by k_asm) (by k_asm) (by k_is) (by k_is) (by k_extra "evs") ?_ rfl rfl rfl rfl rfl); k_whole) | ((with_reducible show wpAny _ _ (storeName _ _ _) _ _ _); walk1; (rename Fr _ _ _ _ => lF); refine letM lF ?_; clear lF; intro m9 lF) | ((with_reducible show wpAny _ _ (binaryOp Operator.LShift (Value.int _ _) (Value.int _ _)) _ _ _); refine lshift_int (by first | with_reducible assumption | omega) (by first | with_reducible assumption | omega) ?_)
    | ((fail_if_success (with_reducible show wpAny _ _ (exec (Stmt.If _ _ _ _) _) _ _ _)); first | (dsimp only; walk1) | walk1)
    | fail "no step")
  (rename Fr _ _ _ _ => jF); (rename News _ _ _ _ => jN)
  refine' joinS (J1 (Str.ofString "whole") (up top bot (rp top bot)) ?ju2) jF jN ?ja2 ?jb2
  rotate_left
  · intro Q9 hQ
    repeat' (first
      | (k_unfold; (try dsimp only))
      | (k_end; wrow_close) | ((with_reducible show wpAny _ _ (eval (Expr.BinOp _ _ _ _) _) _ _ _); k_dflt (refine Ev.bin2 (by k_asm) (by k_extra "ev") (by k_extra "ev") ?_); k_whole) | ((with_reducible show wpAny _ _ (PySem.isTrue (Expr.Compare _ [_] [_] _) _ _) _ _ _); k_dflt (refine Ev.cmp2 (by k_asm) (by k_extra "ev") (by k_extra "ev") ?_ rfl); k_whole) | ((with_reducible show wpAny _ _ (eval (Expr.Call (Expr.Name _ _) (_ :: _) [] _) _) _ _ _); k_dflt (refine Evs.call (by k_asm) (by k_asm) (by k_asm) (by k_is) (by k_is) (by k_extra "evs") ?_ rfl rfl rfl rfl rfl); k_whole) | ((with_reducible show wpAny _ _ (storeName _ _ _) _ _ _); walk1; (rename Fr _ _ _ _ => lF); refine letM lF ?_; clear lF; intro m9 lF) | ((with_reducible show wpAny _ _ (binaryOp Operator.LShift (Value.int _ _) (Value.int _ _)) _ _ _); refine lshift_int (by first | with_reducible assumption | omega) (by first | with_reducible assumption | omega) ?_)
      | (dsimp only; walk1) | walk1
      | fail "no step")
    all_goals first
      | exact joinEnd hQ (by k_asm) (by k_asm) (fun p h => h) ⟨rfl, _, (by
          unfold up; first
            | rw [if_pos (by assumption)]; rfl
            | rw [if_neg (by assumption), if_pos (by assumption), if_pos (by assumption)]; rfl)⟩
      | exact joinEnd hQ (by k_asm) (by k_asm) (fun p h => h) ⟨rfl, _, (by
          unfold up; first
            | rw [if_neg (by assumption), if_pos (by assumption), if_neg (by assumption)]; exact over1_self rfl
            | rw [if_neg (by assumption), if_neg (by assumption)]; exact over1_self rfl)⟩
  rintro v h' tk' m' F' N' ⟨rfl, t3, rfl⟩
  refine letM F' ?_; clear F'; intro m9 F'
  have hp : -2000 ≤ rp top bot ∧ rp top bot ≤ 5000 := rp_range hT hB
  k_with "call ref" => (refine Ct.use (c_assembled w _ _ _ _ _ _ (by assumption) (by assumption) hp.1 hp.2) (by k_asm) (by k_asm) (by k_asm) (by k_asm) (by k_asm) (by first | exact rfl | assumption) (by first | exact room1 hdp (by decide) | ktr_room) (by first | exact units1 hun (by decide) | ktr_units) ?_; intro t9 h9 tk9 F9 N9; (try dsimp only); (try k_sweep); (try k_fold))
  (try dsimp only); (try k_sweep); (try k_fold)
  repeat' (first
    | (k_unfold; (try dsimp only))
    | (k_end; wrow_close) | ((with_reducible show wpAny _ _ (eval (Expr.BinOp _ _ _ _) _) _ _ _); k_dflt (refine Ev.bin2 (by k_asm) (by k_extra "ev") (by k_extra "ev") ?_); k_whole) | ((with_reducible show wpAny _ _ (PySem.isTrue (Expr.Compare _ [_] [_] _) _ _) _ _ _); k_dflt (refine Ev.cmp2 (by k_asm) (by k_extra "ev") (by k_extra "ev") ?_ rfl); k_whole) | ((with_reducible show wpAny _ _ (eval (Expr.Call (Expr.Name _ _) (_ :: _) [] _) _) _ _ _); k_dflt (refine Evs.call (by k_asm) (by k_asm) (by k_asm) (by k_is) (by k_is) (by k_extra "evs") ?_ rfl rfl rfl rfl rfl); k_whole) | ((with_reducible show wpAny _ _ (storeName _ _ _) _ _ _); walk1; (rename Fr _ _ _ _ => lF); refine letM lF ?_; clear lF; intro m9 lF) | ((with_reducible show wpAny _ _ (binaryOp Operator.LShift (Value.int _ _) (Value.int _ _)) _ _ _); refine lshift_int (by first | with_reducible assumption | omega) (by first | with_reducible assumption | omega) ?_)
    | (dsimp only; walk1) | walk1
    | (leave1; try dsimp only)
    | fail "no step")
  all_goals (refine retI hret (by assumption) (by assumption) (by intro p h; simp only [List.mem_cons, h, or_true]) ?_)
  all_goals rfl

end
section

noncomputable def rs (s mt p : Int) : Int := if 0 ≤ p then rr s (mt * 2 ^ p.toNat) 1 else rr s mt (1 * 2 ^ (-p).toNat)
theorem c_round_scaled (w : World) (s mt p : Int) (t u v : Tok) (hs0 : 0 ≤ s) (hs1 : s ≤ 1) (hm : 0 < mt) (hW : Builtin.Int.intBits mt ≤ 500) (hp0 : -1073 ≤ (Builtin.Int.intBits mt : Int) + p) (hp1 : (Builtin.Int.intBits mt : Int) + p ≤ 1024) :
    Ct w 4 112 [.int s t, .int mt u, .int p v] (RI (rs s mt p)) := by
  have f1 : 0 ≤ p → Builtin.Int.intBits (mt * 2 ^ p.toNat) ≤ 2000 := fun h => by
    have := W_mul (x := mt) (by omega) p.toNat
    unfold W at this
    omega
  have f2 : Builtin.Int.intBits (1 * 2 ^ (-p).toNat) ≤ 2000 := by
    have := W_mul (x := 1) (by omega) (-p).toNat
    have h1 : W 1 = 1 := by decide
    unfold W at this h1
    omega
  have f3 : 0 < mt * 2 ^ p.toNat := shl_pos _ hm
  have f4 : (0 : Int) < 1 * 2 ^ (-p).toNat := shl_pos _ (by decide)
  have f5 : Builtin.Int.intBits 1 = 1 := by decide
  intro mean mg mb dp un gd cn cs a ccd cl outer A₀ base h₀ L m news s Q E B F X N T hk hdp hun hret
  refine wpAny_call ?_
  k_dflt cell_enter
  refine letA ?_; intro A1
  (rename Fr _ _ _ _ => lF); refine letM lF ?_; clear lF; intro m9 lF
  k_with "call ref" => (refine Ct.use (c_width w _ _ (by omega)) (by k_asm) (by k_asm) (by k_asm) (by k_asm) (by k_asm) (by first | exact rfl | assumption) (by first | exact room1 hdp (by decide) | ktr_room) (by first | exact units1 hun (by decide) | ktr_units) ?_; intro t9 h9 tk9 F9 N9; (try dsimp only); (try k_sweep); (try k_fold))
  k_with "call ref" => (refine Ct.use (c_round_ratio w _ _ _ _ _ _ (by assumption) (by assumption) (by assumption) (by assumption) (by omega) (by assumption)) (by k_asm) (by k_asm) (by k_asm) (by k_asm) (by k_asm) (by first | exact rfl | assumption) (by first | exact room1 hdp (by decide) | ktr_room) (by first | exact units1 hun (by decide) | ktr_units) ?_; intro t9 h9 tk9 F9 N9; (try dsimp only); (try k_sweep); (try k_fold))
  k_with "call ref" => (refine Ct.use (c_round_ratio w _ _ _ _ _ _ (by assumption) (by assumption) (by assumption) (by omega) (f1 (by assumption)) (by omega)) (by k_asm) (by k_asm) (by k_asm) (by k_asm) (by k_asm) (by first | exact rfl | assumption) (by first | exact room1 hdp (by decide) | ktr_room) (by first | exact units1 hun (by decide) | ktr_units) ?_; intro t9 h9 tk9 F9 N9; (try dsimp only); (try k_sweep); (try k_fold))
  repeat' (first | (k_unfold; (try dsimp only)) | (k_end; wrow_close) | ((with_reducible show wpAny _ _ (exec _ _) _ _ _); (try dsimp only); refine letQ ?_; intro Q8; walk1) | ((with_reducible show wpAny _ _ (eval (Expr.BinOp _ _ _ _) _) _ _ _); k_dflt (refine Ev.bin2 (by k_asm) (by k_extra "ev") (by k_extra "ev") ?_); k_whole) | ((with_reducible show wpAny _ _ (PySem.isTrue (Expr.Compare _ [_] [_] _) _ _) _ _ _); k_dflt (refine Ev.cmp2 (by k_asm) (by k_extra "ev") (by k_extra "ev") ?_ rfl); k_whole) | ((with_reducible show wpAny _ _ (eval (Expr.Call (Expr.Name _ _) (_ :: _) [] _) _) _ _ _); k_dflt (refine Evs.call (by k_asm) (by k_asm) (by k_asm) (by k_is) (by k_is) (by k_extra "evs") ?_ rfl rfl rfl rfl rfl); k_whole) | ((with_reducible show wpAny _ _ (storeName _ _ _) _ _ _); walk1; (rename Fr _ _ _ _ => lF); refine letM lF ?_; clear lF; intro m9 lF) | ((with_reducible show wpAny _ _ (binaryOp Operator.LShift (Value.int _ _) (Value.int _ _)) _ _ _); refine lshift_int (by first | with_reducible assumption | omega) (by first | with_reducible assumption | omega) ?_) | ((with_reducible show KswEnd _ _ _ _ _ _ _ _ _ _ _ _); (rename Fr _ _ _ _ => lF); (try dsimp +zetaDelta only at lF); (try dsimp +zetaDelta only); walk1) | (dsimp only; walk1) | walk1 | (leave1; try dsimp only) | fail "no step")
  · omega
  all_goals (refine retI hret (by assumption) (by assumption) (by intro p h; simp only [List.mem_cons, h, or_true]) ?_)
  · exact (if_pos (by assumption)).symm
  · exact (if_neg (by assumption)).symm
theorem c_round_ratio0 (w : World) (s top bot : Int) (t u v : Tok) (hs0 : 0 ≤ s) (hs1 : s ≤ 1) (ht : top = 0) :
    Ct w 3 98 [.int s t, .int top u, .int bot v] (RI (s * 9223372036854775808)) := by
  intro mean mg mb dp un gd cn cs a ccd cl outer A₀ base h₀ L m news s Q E B F X N T hk hdp hun hret
  refine wpAny_call ?_
  k_dflt cell_enter
  refine letA ?_; intro A1
  (rename Fr _ _ _ _ => lF); refine letM lF ?_; clear lF; intro m9 lF
  repeat' (first | (k_unfold; (try dsimp only)) | (k_end; wrow_close) | ((with_reducible show wpAny _ _ (exec _ _) _ _ _); (try dsimp only); refine letQ ?_; intro Q8; walk1) | ((with_reducible show wpAny _ _ (eval (Expr.BinOp _ _ _ _) _) _ _ _); k_dflt (refine Ev.bin2 (by k_asm) (by k_extra "ev") (by k_extra "ev") ?_); k_whole) | ((with_reducible show wpAny _ _ (PySem.isTrue (Expr.Compare _ [_] [_] _) _ _) _ _ _); k_dflt (refine Ev.cmp2 (by k_asm) (by k_extra "ev") (by k_extra "ev") ?_ rfl); k_whole) | ((with_reducible show wpAny _ _ (eval (Expr.Call (Expr.Name _ _) (_ :: _) [] _) _) _ _ _); k_dflt (refine Evs.call (by k_asm) (by k_asm) (by k_asm) (by k_is) (by k_is) (by k_extra "evs") ?_ rfl rfl rfl rfl rfl); k_whole) | ((with_reducible show wpAny _ _ (storeName _ _ _) _ _ _); walk1; (rename Fr _ _ _ _ => lF); refine letM lF ?_; clear lF; intro m9 lF) | ((with_reducible show wpAny _ _ (binaryOp Operator.LShift (Value.int _ _) (Value.int _ _)) _ _ _); refine lshift_int (by first | with_reducible assumption | omega) (by first | with_reducible assumption | omega) ?_) | ((with_reducible show KswEnd _ _ _ _ _ _ _ _ _ _ _ _); (rename Fr _ _ _ _ => lF); (try dsimp +zetaDelta only at lF); (try dsimp +zetaDelta only); walk1) | (dsimp only; walk1) | walk1 | (leave1; try dsimp only) | fail "no step")
  all_goals first | (exfalso; omega) | skip
  refine retI hret (by assumption) (by assumption) (by intro p h; simp only [List.mem_cons, h, or_true]) ?_
  rw [two63]
noncomputable def ab (n : Int) : Int := if n < 0 then -n else n
theorem c_from_int (w : World) (n : Int) (t : Tok) (hn : n ≠ 0) (hW : Builtin.Int.intBits n ≤ 100) :
    Ct w 4 119 [.int n t] (RI (rr (if n < 0 then 1 else 0) (ab n) 1)) := by
  have f5 : Builtin.Int.intBits 1 = 1 := by decide
  have f6 : Builtin.Int.intBits (ab n) ≤ 2000 := Nat.le_trans (intBits_ite_le (intBits_neg_le hW) hW) (by decide)
  have f7 : 0 < ab n := by unfold ab; split <;> omega
  intro mean mg mb dp un gd cn cs a ccd cl outer A₀ base h₀ L m news s Q E B F X N T hk hdp hun hret
  refine wpAny_call ?_
  k_dflt cell_enter
  refine letA ?_; intro A1
  (rename Fr _ _ _ _ => lF); refine letM lF ?_; clear lF; intro m9 lF
  k_with "call ref" => (refine Ct.use (c_round_ratio w _ _ _ _ _ _ (by omega) (by omega) f7 (by omega) f6 (by omega)) (by k_asm) (by k_asm) (by k_asm) (by k_asm) (by k_asm) (by first | exact rfl | assumption) (by first | exact room1 hdp (by decide) | ktr_room) (by first | exact units1 hun (by decide) | ktr_units) ?_; intro t9 h9 tk9 F9 N9; (try dsimp only); (try k_sweep); (try k_fold))
  repeat' (first | (k_unfold; (try dsimp only)) | (k_end; wrow_close) | ((with_reducible show wpAny _ _ (exec _ _) _ _ _); (try dsimp only); refine letQ ?_; intro Q8; walk1) | ((with_reducible show wpAny _ _ (eval (Expr.BinOp _ _ _ _) _) _ _ _); k_dflt (refine Ev.bin2 (by k_asm) (by k_extra "ev") (by k_extra "ev") ?_); k_whole) | ((with_reducible show wpAny _ _ (PySem.isTrue (Expr.Compare _ [_] [_] _) _ _) _ _ _); k_dflt (refine Ev.cmp2 (by k_asm) (by k_extra "ev") (by k_extra "ev") ?_ rfl); k_whole) | ((with_reducible show wpAny _ _ (eval (Expr.Call (Expr.Name _ _) (_ :: _) [] _) _) _ _ _); k_dflt (refine Evs.call (by k_asm) (by k_asm) (by k_asm) (by k_is) (by k_is) (by k_extra "evs") ?_ rfl rfl rfl rfl rfl); k_whole) | ((with_reducible show wpAny _ _ (storeName _ _ _) _ _ _); walk1; (rename Fr _ _ _ _ => lF); refine letM lF ?_; clear lF; intro m9 lF) | ((with_reducible show wpAny _ _ (binaryOp Operator.LShift (Value.int _ _) (Value.int _ _)) _ _ _); refine lshift_int (by first | with_reducible assumption | omega) (by first | with_reducible assumption | omega) ?_) | ((with_reducible show KswEnd _ _ _ _ _ _ _ _ _ _ _ _); (rename Fr _ _ _ _ => lF); (try dsimp +zetaDelta only at lF); (try dsimp +zetaDelta only); walk1) | (dsimp only; walk1) | walk1 | (leave1; try dsimp only) | fail "no step")
  all_goals (refine retI hret (by assumption) (by assumption) (by intro p h; simp only [List.mem_cons, h, or_true]) ?_)
  · rw [if_pos (by assumption)]
  · rw [if_neg (by assumption)]
theorem c_from_int0 (w : World) (t : Tok) :
    Ct w 4 119 [.int 0 t] (RI 0) := by
  intro mean mg mb dp un gd cn cs a ccd cl outer A₀ base h₀ L m news s Q E B F X N T hk hdp hun hret
  refine wpAny_call ?_
  k_dflt cell_enter
  refine letA ?_; intro A1
  (rename Fr _ _ _ _ => lF); refine letM lF ?_; clear lF; intro m9 lF
  k_with "call ref" => (refine Ct.use (c_round_ratio0 w _ _ _ _ _ _ (by omega) (by omega) (by decide)) (by k_asm) (by k_asm) (by k_asm) (by k_asm) (by k_asm) (by first | exact rfl | assumption) (by first | exact room1 hdp (by decide) | ktr_room) (by first | exact units1 hun (by decide) | ktr_units) ?_; intro t9 h9 tk9 F9 N9; (try dsimp only); (try k_sweep); (try k_fold))
  repeat' (first | (k_unfold; (try dsimp only)) | (k_end; wrow_close) | ((with_reducible show wpAny _ _ (exec _ _) _ _ _); (try dsimp only); refine letQ ?_; intro Q8; walk1) | ((with_reducible show wpAny _ _ (eval (Expr.BinOp _ _ _ _) _) _ _ _); k_dflt (refine Ev.bin2 (by k_asm) (by k_extra "ev") (by k_extra "ev") ?_); k_whole) | ((with_reducible show wpAny _ _ (PySem.isTrue (Expr.Compare _ [_] [_] _) _ _) _ _ _); k_dflt (refine Ev.cmp2 (by k_asm) (by k_extra "ev") (by k_extra "ev") ?_ rfl); k_whole) | ((with_reducible show wpAny _ _ (eval (Expr.Call (Expr.Name _ _) (_ :: _) [] _) _) _ _ _); k_dflt (refine Evs.call (by k_asm) (by k_asm) (by k_asm) (by k_is) (by k_is) (by k_extra "evs") ?_ rfl rfl rfl rfl rfl); k_whole) | ((with_reducible show wpAny _ _ (storeName _ _ _) _ _ _); walk1; (rename Fr _ _ _ _ => lF); refine letM lF ?_; clear lF; intro m9 lF) | ((with_reducible show wpAny _ _ (binaryOp Operator.LShift (Value.int _ _) (Value.int _ _)) _ _ _); refine lshift_int (by first | with_reducible assumption | omega) (by first | with_reducible assumption | omega) ?_) | ((with_reducible show KswEnd _ _ _ _ _ _ _ _ _ _ _ _); (rename Fr _ _ _ _ => lF); (try dsimp +zetaDelta only at lF); (try dsimp +zetaDelta only); walk1) | (dsimp only; walk1) | walk1 | (leave1; try dsimp only) | fail "no step")
  all_goals (refine retI hret (by assumption) (by assumption) (by intro p h; simp only [List.mem_cons, h, or_true]) ?_)
  all_goals decide

end
section

/-- v is the double of the int k, k not 0, of few bits -/
structure IntD (v k m x : Int) : Prop where
  d : Dbl v (if k < 0 then 1 else 0) m x
  k0 : k ≠ 0
  x1 : x < 0
  x0 : -60 ≤ x
  m : m = ab k * 2 ^ (-x).toNat
theorem Dbl.fin {v s m x : Int} (h : Dbl v s m x) : v % 9223372036854775808 < 9218868437227405312 ∧ 0 < v % 9223372036854775808 := by
  obtain ⟨s0, s1, m0, m1, x0, x1, rfl⟩ := h
  omega
theorem Dbl.W {v s m x : Int} (h : Dbl v s m x) : Builtin.Int.intBits m ≤ 53 := by
  refine intBits_le_iff.mpr ?_
  have := h.m0
  have := h.m1
  omega
theorem IntD.q {v k m x : Int} (h : IntD v k m x) : m.fdiv (2 ^ (-x).toNat) = ab k := by
  rw [h.m]
  exact kbt_q1 _ _
theorem c_is_whole (w : World) (v k m x : Int) (t : Tok) (hv : IntD v k m x) : Ct w 2 133 [.int v t] (RB true) := by
  have f1 := hv.d.fin.1
  have f2 := hv.x1
  have f3 := hv.x0
  have f4 : Builtin.Int.intBits (m.fdiv (2 ^ (-x).toNat)) ≤ 53 := intBits_fdiv_le hv.d.W
  intro mean mg mb dp un gd cn cs a ccd cl outer A₀ base h₀ L m news s Q E B F X N T hk hdp hun hret
  refine wpAny_call ?_
  k_dflt cell_enter
  refine letA ?_; intro A1
  (rename Fr _ _ _ _ => lF); refine letM lF ?_; clear lF; intro m9 lF
  k_with "call ref" => (refine Ct.use (c_is_finite w _ _) (by k_asm) (by k_asm) (by k_asm) (by k_asm) (by k_asm) (by first | exact rfl | assumption) (by first | exact room1 hdp (by decide) | ktr_room) (by first | exact units1 hun (by decide) | ktr_units) ?_; intro h9 tk9 F9 N9; (try dsimp only); (try k_sweep); (try k_fold))
  k_with "call ref" => (refine Ct.use (c_parts w _ _ _ _ _ hv.d) (by k_asm) (by k_asm) (by k_asm) (by k_asm) (by k_asm) (by first | exact rfl | assumption) (by first | exact room1 hdp (by decide) | ktr_room) (by first | exact units1 hun (by decide) | ktr_units) ?_; intro D9 tok1 tok2 tok3 c9 h9 tk9 F9 N9 l9; (try simp only [AllLt, and_true] at l9); (try dsimp only); (try k_sweep); (try k_fold))
  repeat' (first | (k_unfold; (try dsimp only)) | (k_end; wrow_close) | ((with_reducible show wpAny _ _ (exec _ _) _ _ _); (try dsimp only); refine letQ ?_; intro Q8; walk1) | ((with_reducible show wpAny _ _ (eval (Expr.BinOp _ _ _ _) _) _ _ _); k_dflt (refine Ev.bin2 (by k_asm) (by k_extra "ev") (by k_extra "ev") ?_); k_whole) | ((with_reducible show wpAny _ _ (PySem.isTrue (Expr.Compare _ [_] [_] _) _ _) _ _ _); k_dflt (refine Ev.cmp2 (by k_asm) (by k_extra "ev") (by k_extra "ev") ?_ rfl); k_whole) | ((with_reducible show wpAny _ _ (eval (Expr.Call (Expr.Name _ _) (_ :: _) [] _) _) _ _ _); k_dflt (refine Evs.call (by k_asm) (by k_asm) (by k_asm) (by k_is) (by k_is) (by k_extra "evs") ?_ rfl rfl rfl rfl rfl); k_whole) | ((with_reducible show wpAny _ _ (storeName _ _ _) _ _ _); walk1; (rename Fr _ _ _ _ => lF); refine letM lF ?_; clear lF; intro m9 lF) | ((with_reducible show wpAny _ _ (binaryOp Operator.LShift (Value.int _ _) (Value.int _ _)) _ _ _); refine lshift_int (by first | with_reducible assumption | omega) (by first | with_reducible assumption | omega) ?_) | ((with_reducible show KswEnd _ _ _ _ _ _ _ _ _ _ _ _); (rename Fr _ _ _ _ => lF); (try dsimp +zetaDelta only at lF); (try dsimp +zetaDelta only); walk1) | (dsimp only; walk1) | walk1 | (leave1; try dsimp only) | fail "no step")
  all_goals (refine retB hret (by assumption) (by assumption) (by intro p h; simp only [List.mem_cons, h, or_true]) ?_)
  rw [hv.q, ← hv.m]
  simp
theorem c_to_int (w : World) (v k m x : Int) (t : Tok) (hv : IntD v k m x) : Ct w 2 126 [.int v t] (RI k) := by
  have f1 := hv.d.fin.1
  have f2 := hv.x1
  have f3 := hv.x0
  intro mean mg mb dp un gd cn cs a ccd cl outer A₀ base h₀ L m news s Q E B F X N T hk hdp hun hret
  refine wpAny_call ?_
  k_dflt cell_enter
  refine letA ?_; intro A1
  (rename Fr _ _ _ _ => lF); refine letM lF ?_; clear lF; intro m9 lF
  k_with "call ref" => (refine Ct.use (c_is_finite w _ _) (by k_asm) (by k_asm) (by k_asm) (by k_asm) (by k_asm) (by first | exact rfl | assumption) (by first | exact room1 hdp (by decide) | ktr_room) (by first | exact units1 hun (by decide) | ktr_units) ?_; intro h9 tk9 F9 N9; (try dsimp only); (try k_sweep); (try k_fold))
  k_with "call ref" => (refine Ct.use (c_parts w _ _ _ _ _ hv.d) (by k_asm) (by k_asm) (by k_asm) (by k_asm) (by k_asm) (by first | exact rfl | assumption) (by first | exact room1 hdp (by decide) | ktr_room) (by first | exact units1 hun (by decide) | ktr_units) ?_; intro D9 tok1 tok2 tok3 c9 h9 tk9 F9 N9 l9; (try simp only [AllLt, and_true] at l9); (try dsimp only); (try k_sweep); (try k_fold))
  repeat' (first | (k_unfold; (try dsimp only)) | (k_end; wrow_close) | ((with_reducible show wpAny _ _ (exec _ _) _ _ _); (try dsimp only); refine letQ ?_; intro Q8; walk1) | ((with_reducible show wpAny _ _ (eval (Expr.BinOp _ _ _ _) _) _ _ _); k_dflt (refine Ev.bin2 (by k_asm) (by k_extra "ev") (by k_extra "ev") ?_); k_whole) | ((with_reducible show wpAny _ _ (PySem.isTrue (Expr.Compare _ [_] [_] _) _ _) _ _ _); k_dflt (refine Ev.cmp2 (by k_asm) (by k_extra "ev") (by k_extra "ev") ?_ rfl); k_whole) | ((with_reducible show wpAny _ _ (eval (Expr.Call (Expr.Name _ _) (_ :: _) [] _) _) _ _ _); k_dflt (refine Evs.call (by k_asm) (by k_asm) (by k_asm) (by k_is) (by k_is) (by k_extra "evs") ?_ rfl rfl rfl rfl rfl); k_whole) | ((with_reducible show wpAny _ _ (storeName _ _ _) _ _ _); walk1; (rename Fr _ _ _ _ => lF); refine letM lF ?_; clear lF; intro m9 lF) | ((with_reducible show wpAny _ _ (binaryOp Operator.LShift (Value.int _ _) (Value.int _ _)) _ _ _); refine lshift_int (by first | with_reducible assumption | omega) (by first | with_reducible assumption | omega) ?_) | ((with_reducible show KswEnd _ _ _ _ _ _ _ _ _ _ _ _); (rename Fr _ _ _ _ => lF); (try dsimp +zetaDelta only at lF); (try dsimp +zetaDelta only); walk1) | (dsimp only; walk1) | walk1 | (leave1; try dsimp only) | fail "no step")
  all_goals (refine retI hret (by assumption) (by assumption) (by intro p h; simp only [List.mem_cons, h, or_true]) ?_)
  all_goals (rw [hv.q]; unfold ab; split <;> simp_all)
theorem c_is_odd (w : World) (v k m x : Int) (t : Tok) (hv : IntD v k m x) : Ct w 3 175 [.int v t] (RB (k.fmod 2 == 1)) := by
  intro mean mg mb dp un gd cn cs a ccd cl outer A₀ base h₀ L m news s Q E B F X N T hk hdp hun hret
  refine wpAny_call ?_
  k_dflt cell_enter
  refine letA ?_; intro A1
  (rename Fr _ _ _ _ => lF); refine letM lF ?_; clear lF; intro m9 lF
  k_with "call ref" => (refine Ct.use (c_is_whole w _ _ _ _ _ hv) (by k_asm) (by k_asm) (by k_asm) (by k_asm) (by k_asm) (by first | exact rfl | assumption) (by first | exact room1 hdp (by decide) | ktr_room) (by first | exact units1 hun (by decide) | ktr_units) ?_; intro h9 tk9 F9 N9; (try dsimp only); (try k_sweep); (try k_fold))
  k_with "call ref" => (refine Ct.use (c_to_int w _ _ _ _ _ hv) (by k_asm) (by k_asm) (by k_asm) (by k_asm) (by k_asm) (by first | exact rfl | assumption) (by first | exact room1 hdp (by decide) | ktr_room) (by first | exact units1 hun (by decide) | ktr_units) ?_; intro t9 h9 tk9 F9 N9; (try dsimp only); (try k_sweep); (try k_fold))
  repeat' (first | (k_unfold; (try dsimp only)) | (k_end; wrow_close) | ((with_reducible show wpAny _ _ (exec _ _) _ _ _); (try dsimp only); refine letQ ?_; intro Q8; walk1) | ((with_reducible show wpAny _ _ (eval (Expr.BinOp _ _ _ _) _) _ _ _); k_dflt (refine Ev.bin2 (by k_asm) (by k_extra "ev") (by k_extra "ev") ?_); k_whole) | ((with_reducible show wpAny _ _ (PySem.isTrue (Expr.Compare _ [_] [_] _) _ _) _ _ _); k_dflt (refine Ev.cmp2 (by k_asm) (by k_extra "ev") (by k_extra "ev") ?_ rfl); k_whole) | ((with_reducible show wpAny _ _ (eval (Expr.Call (Expr.Name _ _) (_ :: _) [] _) _) _ _ _); k_dflt (refine Evs.call (by k_asm) (by k_asm) (by k_asm) (by k_is) (by k_is) (by k_extra "evs") ?_ rfl rfl rfl rfl rfl); k_whole) | ((with_reducible show wpAny _ _ (storeName _ _ _) _ _ _); walk1; (rename Fr _ _ _ _ => lF); refine letM lF ?_; clear lF; intro m9 lF) | ((with_reducible show wpAny _ _ (binaryOp Operator.LShift (Value.int _ _) (Value.int _ _)) _ _ _); refine lshift_int (by first | with_reducible assumption | omega) (by first | with_reducible assumption | omega) ?_) | ((with_reducible show KswEnd _ _ _ _ _ _ _ _ _ _ _ _); (rename Fr _ _ _ _ => lF); (try dsimp +zetaDelta only at lF); (try dsimp +zetaDelta only); walk1) | (dsimp only; walk1) | walk1 | (leave1; try dsimp only) | fail "no step")
  all_goals (refine retB hret (by assumption) (by assumption) (by intro p h; simp only [List.mem_cons, h, or_true]) rfl)
theorem c_trimmed (w : World) (mt sc lim : Int) (t u v : Tok) (h0 : 0 ≤ mt) (hW : Builtin.Int.intBits mt ≤ 200) : Ct w 2 210 [.int mt t, .int sc u, .int lim v] (RT2 mt sc) := by
  intro mean mg mb dp un gd cn cs a ccd cl outer A₀ base h₀ L m news s Q E B F X N T hk hdp hun hret
  refine wpAny_call ?_
  k_dflt cell_enter
  refine letA ?_; intro A1
  (rename Fr _ _ _ _ => lF); refine letM lF ?_; clear lF; intro m9 lF
  k_with "call ref" => (refine Ct.use (c_width w _ _ (by omega)) (by k_asm) (by k_asm) (by k_asm) (by k_asm) (by k_asm) (by first | exact rfl | assumption) (by first | exact room1 hdp (by decide) | ktr_room) (by first | exact units1 hun (by decide) | ktr_units) ?_; intro t9 h9 tk9 F9 N9; (try dsimp only); (try k_sweep); (try k_fold))
  repeat' (first | (k_unfold; (try dsimp only)) | (k_end; wrow_close) | ((with_reducible show wpAny _ _ (exec _ _) _ _ _); (try dsimp only); refine letQ ?_; intro Q8; walk1) | ((with_reducible show wpAny _ _ (eval (Expr.BinOp _ _ _ _) _) _ _ _); k_dflt (refine Ev.bin2 (by k_asm) (by k_extra "ev") (by k_extra "ev") ?_); k_whole) | ((with_reducible show wpAny _ _ (PySem.isTrue (Expr.Compare _ [_] [_] _) _ _) _ _ _); k_dflt (refine Ev.cmp2 (by k_asm) (by k_extra "ev") (by k_extra "ev") ?_ rfl); k_whole) | ((with_reducible show wpAny _ _ (eval (Expr.Call (Expr.Name _ _) (_ :: _) [] _) _) _ _ _); k_dflt (refine Evs.call (by k_asm) (by k_asm) (by k_asm) (by k_is) (by k_is) (by k_extra "evs") ?_ rfl rfl rfl rfl rfl); k_whole) | ((with_reducible show wpAny _ _ (storeName _ _ _) _ _ _); walk1; (rename Fr _ _ _ _ => lF); refine letM lF ?_; clear lF; intro m9 lF) | ((with_reducible show wpAny _ _ (binaryOp Operator.LShift (Value.int _ _) (Value.int _ _)) _ _ _); refine lshift_int (by first | with_reducible assumption | omega) (by first | with_reducible assumption | omega) ?_) | ((with_reducible show KswEnd _ _ _ _ _ _ _ _ _ _ _ _); (rename Fr _ _ _ _ => lF); (try dsimp +zetaDelta only at lF); (try dsimp +zetaDelta only); walk1) | (dsimp only; walk1) | walk1 | (leave1; try dsimp only) | fail "no step")
  all_goals (exact retT2 hret (by assumption) (by assumption) (by exact List.Mem.head _) (by intro p h; simp only [List.mem_cons, h, or_true]) (by first | exact allLt_of (by assumption) | exact And.right (by assumption)) rfl rfl)
theorem c_trimmedN (w : World) (mt sc : Int) (t u : Tok) (h0 : 0 ≤ mt) (hW : Builtin.Int.intBits mt ≤ 200) : Ct w 2 210 [.int mt t, .int sc u, .none] (RT2 mt sc) := by
  intro mean mg mb dp un gd cn cs a ccd cl outer A₀ base h₀ L m news s Q E B F X N T hk hdp hun hret
  refine wpAny_call ?_
  k_dflt cell_enter
  refine letA ?_; intro A1
  (rename Fr _ _ _ _ => lF); refine letM lF ?_; clear lF; intro m9 lF
  k_with "call ref" => (refine Ct.use (c_width w _ _ (by omega)) (by k_asm) (by k_asm) (by k_asm) (by k_asm) (by k_asm) (by first | exact rfl | assumption) (by first | exact room1 hdp (by decide) | ktr_room) (by first | exact units1 hun (by decide) | ktr_units) ?_; intro t9 h9 tk9 F9 N9; (try dsimp only); (try k_sweep); (try k_fold))
  repeat' (first | (k_unfold; (try dsimp only)) | (k_end; wrow_close) | ((with_reducible show wpAny _ _ (exec _ _) _ _ _); (try dsimp only); refine letQ ?_; intro Q8; walk1) | ((with_reducible show wpAny _ _ (eval (Expr.BinOp _ _ _ _) _) _ _ _); k_dflt (refine Ev.bin2 (by k_asm) (by k_extra "ev") (by k_extra "ev") ?_); k_whole) | ((with_reducible show wpAny _ _ (PySem.isTrue (Expr.Compare _ [_] [_] _) _ _) _ _ _); k_dflt (refine Ev.cmp2 (by k_asm) (by k_extra "ev") (by k_extra "ev") ?_ rfl); k_whole) | ((with_reducible show wpAny _ _ (eval (Expr.Call (Expr.Name _ _) (_ :: _) [] _) _) _ _ _); k_dflt (refine Evs.call (by k_asm) (by k_asm) (by k_asm) (by k_is) (by k_is) (by k_extra "evs") ?_ rfl rfl rfl rfl rfl); k_whole) | ((with_reducible show wpAny _ _ (storeName _ _ _) _ _ _); walk1; (rename Fr _ _ _ _ => lF); refine letM lF ?_; clear lF; intro m9 lF) | ((with_reducible show wpAny _ _ (binaryOp Operator.LShift (Value.int _ _) (Value.int _ _)) _ _ _); refine lshift_int (by first | with_reducible assumption | omega) (by first | with_reducible assumption | omega) ?_) | ((with_reducible show KswEnd _ _ _ _ _ _ _ _ _ _ _ _); (rename Fr _ _ _ _ => lF); (try dsimp +zetaDelta only at lF); (try dsimp +zetaDelta only); walk1) | (dsimp only; walk1) | walk1 | (leave1; try dsimp only) | fail "no step")
  all_goals (exact retT2 hret (by assumption) (by assumption) (by exact List.Mem.head _) (by intro p h; simp only [List.mem_cons, h, or_true]) (by first | exact allLt_of (by assumption) | exact And.right (by assumption)) rfl rfl)

end
section

theorem xor01 {a b : Int} (a0 : 0 ≤ a) (a1 : a ≤ 1) (b0 : 0 ≤ b) (b1 : b ≤ 1) : Builtin.bitXor a b = (a + b) % 2 := by
  have ha : a = 0 ∨ a = 1 := by omega
  have hb : b = 0 ∨ b = 1 := by omega
  rcases ha with rfl | rfl <;> rcases hb with rfl | rfl <;> decide
theorem Dbl.xor {a b s1 m1 x1 s2 m2 x2 : Int} (ha : Dbl a s1 m1 x1) (hb : Dbl b s2 m2 x2) : Builtin.bitXor (a.fdiv (2 ^ Int.toNat 63)) (b.fdiv (2 ^ Int.toNat 63)) = (s1 + s2) % 2 := by
  rw [ha.e1, hb.e1, xor01 ha.s0 ha.s1 hb.s0 hb.s1]
theorem c_is_nanF (w : World) (v s m x : Int) (t : Tok) (h : Dbl v s m x) : Ct w 1 42 [.int v t] (RB false) := by
  have e : decide (9218868437227405312 < v % 9223372036854775808) = false := decide_eq_false (by have := h.fin; omega)
  exact e ▸ c_is_nan w v t
theorem c_is_infF (w : World) (v s m x : Int) (t : Tok) (h : Dbl v s m x) : Ct w 1 49 [.int v t] (RB false) := by
  have e : (v % 9223372036854775808 == 9218868437227405312) = false := beq_eq_false_iff_ne.mpr (by have := h.fin; omega)
  exact e ▸ c_is_inf w v t
theorem c_is_zeroF (w : World) (v s m x : Int) (t : Tok) (h : Dbl v s m x) : Ct w 1 63 [.int v t] (RB false) := by
  have e : (v % 9223372036854775808 == 0) = false := beq_eq_false_iff_ne.mpr (by have := h.fin; omega)
  exact e ▸ c_is_zero w v t
theorem c_mul (w : World) (a b s1 m1 x1 s2 m2 x2 : Int) (t u : Tok) (ha : Dbl a s1 m1 x1) (hb : Dbl b s2 m2 x2) (hp0 : -1073 ≤ (Builtin.Int.intBits (m1 * m2) : Int) + (x1 + x2)) (hp1 : (Builtin.Int.intBits (m1 * m2) : Int) + (x1 + x2) ≤ 1024) :
    Ct w 5 147 [.int a t, .int b u] (RI (rs ((s1 + s2) % 2) (m1 * m2) (x1 + x2))) := by
  have f3 := ha.xor hb
  have f4 : Builtin.Int.intBits (m1 * m2) ≤ 500 := Nat.le_trans (intBits_mul_le ha.W hb.W) (by decide)
  have f5 : 0 < m1 * m2 := Int.mul_pos (by have := ha.m0; omega) (by have := hb.m0; omega)
  have f6 : Builtin.Int.intBits m1 ≤ 64 := Nat.le_trans ha.W (by decide)
  intro mean mg mb dp un gd cn cs a ccd cl outer A₀ base h₀ L m news s Q E B F X N T hk hdp hun hret
  refine wpAny_call ?_
  k_dflt cell_enter
  refine letA ?_; intro A1
  (rename Fr _ _ _ _ => lF); refine letM lF ?_; clear lF; intro m9 lF
  k_with "call ref" => first | (refine Ct.use (c_is_nanF w _ _ _ _ _ ha) (by k_asm) (by k_asm) (by k_asm) (by k_asm) (by k_asm) (by first | exact rfl | assumption) (by first | exact room1 hdp (by decide) | ktr_room) (by first | exact units1 hun (by decide) | ktr_units) ?_; intro h9 tk9 F9 N9; (try dsimp only); (try k_sweep); (try k_fold)) | (refine Ct.use (c_is_nanF w _ _ _ _ _ hb) (by k_asm) (by k_asm) (by k_asm) (by k_asm) (by k_asm) (by first | exact rfl | assumption) (by first | exact room1 hdp (by decide) | ktr_room) (by first | exact units1 hun (by decide) | ktr_units) ?_; intro h9 tk9 F9 N9; (try dsimp only); (try k_sweep); (try k_fold))
  k_with "call ref" => first | (refine Ct.use (c_is_infF w _ _ _ _ _ ha) (by k_asm) (by k_asm) (by k_asm) (by k_asm) (by k_asm) (by first | exact rfl | assumption) (by first | exact room1 hdp (by decide) | ktr_room) (by first | exact units1 hun (by decide) | ktr_units) ?_; intro h9 tk9 F9 N9; (try dsimp only); (try k_sweep); (try k_fold)) | (refine Ct.use (c_is_infF w _ _ _ _ _ hb) (by k_asm) (by k_asm) (by k_asm) (by k_asm) (by k_asm) (by first | exact rfl | assumption) (by first | exact room1 hdp (by decide) | ktr_room) (by first | exact units1 hun (by decide) | ktr_units) ?_; intro h9 tk9 F9 N9; (try dsimp only); (try k_sweep); (try k_fold))
  k_with "call ref" => first | (refine Ct.use (c_parts w _ _ _ _ _ ha) (by k_asm) (by k_asm) (by k_asm) (by k_asm) (by k_asm) (by first | exact rfl | assumption) (by first | exact room1 hdp (by decide) | ktr_room) (by first | exact units1 hun (by decide) | ktr_units) ?_; intro D9 tok1 tok2 tok3 c9 h9 tk9 F9 N9 l9; (try simp only [AllLt, and_true] at l9); (try dsimp only); (try k_sweep); (try k_fold)) | (refine Ct.use (c_parts w _ _ _ _ _ hb) (by k_asm) (by k_asm) (by k_asm) (by k_asm) (by k_asm) (by first | exact rfl | assumption) (by first | exact room1 hdp (by decide) | ktr_room) (by first | exact units1 hun (by decide) | ktr_units) ?_; intro D9 tok1 tok2 tok3 c9 h9 tk9 F9 N9 l9; (try simp only [AllLt, and_true] at l9); (try dsimp only); (try k_sweep); (try k_fold))
  k_with "call ref" => (refine Ct.use (c_round_scaled w _ _ _ _ _ _ (by omega) (by omega) (by assumption) (by assumption) (by assumption) (by assumption)) (by k_asm) (by k_asm) (by k_asm) (by k_asm) (by k_asm) (by first | exact rfl | assumption) (by first | exact room1 hdp (by decide) | ktr_room) (by first | exact units1 hun (by decide) | ktr_units) ?_; intro t9 h9 tk9 F9 N9; (try dsimp only); (try k_sweep); (try k_fold))
  repeat' (first | (k_unfold; (try dsimp only)) | (k_end; wrow_close) | ((with_reducible show wpAny _ _ (exec _ _) _ _ _); (try dsimp only); refine letQ ?_; intro Q8; walk1) | ((with_reducible show wpAny _ _ (eval (Expr.BinOp _ _ _ _) _) _ _ _); k_dflt (refine Ev.bin2 (by k_asm) (by k_extra "ev") (by k_extra "ev") ?_); k_whole) | ((with_reducible show wpAny _ _ (PySem.isTrue (Expr.Compare _ [_] [_] _) _ _) _ _ _); k_dflt (refine Ev.cmp2 (by k_asm) (by k_extra "ev") (by k_extra "ev") ?_ rfl); k_whole) | ((with_reducible show wpAny _ _ (eval (Expr.Call (Expr.Name _ _) (_ :: _) [] _) _) _ _ _); k_dflt (refine Evs.call (by k_asm) (by k_asm) (by k_asm) (by k_is) (by k_is) (by k_extra "evs") ?_ rfl rfl rfl rfl rfl); k_whole) | ((with_reducible show wpAny _ _ (storeName _ _ _) _ _ _); walk1; (rename Fr _ _ _ _ => lF); refine letM lF ?_; clear lF; intro m9 lF) | ((with_reducible show wpAny _ _ (binaryOp Operator.LShift (Value.int _ _) (Value.int _ _)) _ _ _); refine lshift_int (by first | with_reducible assumption | omega) (by first | with_reducible assumption | omega) ?_) | ((with_reducible show KswEnd _ _ _ _ _ _ _ _ _ _ _ _); (rename Fr _ _ _ _ => lF); (try dsimp +zetaDelta only at lF); (try dsimp +zetaDelta only); walk1) | (dsimp only; walk1) | walk1 | (leave1; try dsimp only) | fail "no step")
  all_goals (refine retI hret (by assumption) (by assumption) (by intro p h; simp only [List.mem_cons, h, or_true]) ?_)
  rw [f3]
theorem min_facts {x1 x2 : Int} (h0 : -1500 ≤ x1 - x2) (h1 : x1 - x2 ≤ 1500) : (0 ≤ x1 - (if x2 < x1 then x2 else x1) ∧ x1 - (if x2 < x1 then x2 else x1) ≤ 1500) ∧ (0 ≤ x2 - (if x2 < x1 then x2 else x1) ∧ x2 - (if x2 < x1 then x2 else x1) ≤ 1500) := by
  split <;> omega
theorem bits_shl {m d : Int} (hm : 4503599627370496 ≤ m) (hW : Builtin.Int.intBits m ≤ 53) (h0 : 0 ≤ d) (h1 : d ≤ 1500) : 0 < m ∧ Builtin.Int.intBits (m * 2 ^ d.toNat) ≤ 2000 ∧ (Builtin.Int.intBits m : Int) + d ≤ 2 ^ 27 := by
  have hp : 0 < m := Int.lt_of_lt_of_le (by decide) hm
  obtain ⟨n, rfl⟩ := Int.eq_ofNat_of_zero_le h0
  have h := W_mul (x := m) (Int.ne_of_gt hp) n
  unfold W at h
  rw [Int.toNat_natCast, h]
  exact ⟨hp, by omega, by omega⟩
theorem c_div (w : World) (a b s1 m1 x1 s2 m2 x2 : Int) (t u : Tok) (ha : Dbl a s1 m1 x1) (hb : Dbl b s2 m2 x2) (hx0 : -1500 ≤ x1 - x2) (hx1 : x1 - x2 ≤ 1500) :
    Ct w 5 154 [.int a t, .int b u] (RI (rr ((s1 + s2) % 2) (m1 * 2 ^ (x1 - (if x2 < x1 then x2 else x1)).toNat) (m2 * 2 ^ (x2 - (if x2 < x1 then x2 else x1)).toNat))) := by
  have f3 := ha.xor hb
  have f4 := ha.m0
  have f5 := hb.m0
  have f6 := ha.W
  have f7 := hb.W
  have fm := min_facts hx0 hx1
  have b1 := bits_shl f4 f6 fm.1.1 fm.1.2
  have b2 := bits_shl f5 f7 fm.2.1 fm.2.2
  have e1 := fm.1.1
  have e2 := fm.2.1
  have e3 := b1.2.2
  have e4 := b2.2.2
  intro mean mg mb dp un gd cn cs a ccd cl outer A₀ base h₀ L m news s Q E B F X N T hk hdp hun hret
  refine wpAny_call ?_
  k_dflt cell_enter
  refine letA ?_; intro A1
  (rename Fr _ _ _ _ => lF); refine letM lF ?_; clear lF; intro m9 lF
  k_with "call ref" => first | (refine Ct.use (c_is_nanF w _ _ _ _ _ ha) (by k_asm) (by k_asm) (by k_asm) (by k_asm) (by k_asm) (by first | exact rfl | assumption) (by first | exact room1 hdp (by decide) | ktr_room) (by first | exact units1 hun (by decide) | ktr_units) ?_; intro h9 tk9 F9 N9; (try dsimp only); (try k_sweep); (try k_fold)) | (refine Ct.use (c_is_nanF w _ _ _ _ _ hb) (by k_asm) (by k_asm) (by k_asm) (by k_asm) (by k_asm) (by first | exact rfl | assumption) (by first | exact room1 hdp (by decide) | ktr_room) (by first | exact units1 hun (by decide) | ktr_units) ?_; intro h9 tk9 F9 N9; (try dsimp only); (try k_sweep); (try k_fold))
  k_with "call ref" => first | (refine Ct.use (c_is_infF w _ _ _ _ _ ha) (by k_asm) (by k_asm) (by k_asm) (by k_asm) (by k_asm) (by first | exact rfl | assumption) (by first | exact room1 hdp (by decide) | ktr_room) (by first | exact units1 hun (by decide) | ktr_units) ?_; intro h9 tk9 F9 N9; (try dsimp only); (try k_sweep); (try k_fold)) | (refine Ct.use (c_is_infF w _ _ _ _ _ hb) (by k_asm) (by k_asm) (by k_asm) (by k_asm) (by k_asm) (by first | exact rfl | assumption) (by first | exact room1 hdp (by decide) | ktr_room) (by first | exact units1 hun (by decide) | ktr_units) ?_; intro h9 tk9 F9 N9; (try dsimp only); (try k_sweep); (try k_fold))
  k_with "call ref" => (refine Ct.use (c_is_zeroF w _ _ _ _ _ hb) (by k_asm) (by k_asm) (by k_asm) (by k_asm) (by k_asm) (by first | exact rfl | assumption) (by first | exact room1 hdp (by decide) | ktr_room) (by first | exact units1 hun (by decide) | ktr_units) ?_; intro h9 tk9 F9 N9; (try dsimp only); (try k_sweep); (try k_fold))
  k_with "call ref" => first | (refine Ct.use (c_parts w _ _ _ _ _ ha) (by k_asm) (by k_asm) (by k_asm) (by k_asm) (by k_asm) (by first | exact rfl | assumption) (by first | exact room1 hdp (by decide) | ktr_room) (by first | exact units1 hun (by decide) | ktr_units) ?_; intro D9 tok1 tok2 tok3 c9 h9 tk9 F9 N9 l9; (try simp only [AllLt, and_true] at l9); (try dsimp only); (try k_sweep); (try k_fold)) | (refine Ct.use (c_parts w _ _ _ _ _ hb) (by k_asm) (by k_asm) (by k_asm) (by k_asm) (by k_asm) (by first | exact rfl | assumption) (by first | exact room1 hdp (by decide) | ktr_room) (by first | exact units1 hun (by decide) | ktr_units) ?_; intro D9 tok1 tok2 tok3 c9 h9 tk9 F9 N9 l9; (try simp only [AllLt, and_true] at l9); (try dsimp only); (try k_sweep); (try k_fold))
  k_with "call ref" => (refine Ct.use (c_round_ratio w _ _ _ _ _ _ (by omega) (by omega) (shl_pos _ b1.1) (shl_pos _ b2.1) b1.2.1 b2.2.1) (by k_asm) (by k_asm) (by k_asm) (by k_asm) (by k_asm) (by first | exact rfl | assumption) (by first | exact room1 hdp (by decide) | ktr_room) (by first | exact units1 hun (by decide) | ktr_units) ?_; intro t9 h9 tk9 F9 N9; (try dsimp only); (try k_sweep); (try k_fold))
  repeat' (first | (k_unfold; (try dsimp only)) | (k_end; wrow_close) | ((with_reducible show wpAny _ _ (exec _ _) _ _ _); (try dsimp only); refine letQ ?_; intro Q8; walk1) | ((with_reducible show wpAny _ _ (eval (Expr.BinOp _ _ _ _) _) _ _ _); k_dflt (refine Ev.bin2 (by k_asm) (by k_extra "ev") (by k_extra "ev") ?_); k_whole) | ((with_reducible show wpAny _ _ (PySem.isTrue (Expr.Compare _ [_] [_] _) _ _) _ _ _); k_dflt (refine Ev.cmp2 (by k_asm) (by k_extra "ev") (by k_extra "ev") ?_ rfl); k_whole) | ((with_reducible show wpAny _ _ (eval (Expr.Call (Expr.Name _ _) (_ :: _) [] _) _) _ _ _); k_dflt (refine Evs.call (by k_asm) (by k_asm) (by k_asm) (by k_is) (by k_is) (by k_extra "evs") ?_ rfl rfl rfl rfl rfl); k_whole) | ((with_reducible show wpAny _ _ (storeName _ _ _) _ _ _); walk1; (rename Fr _ _ _ _ => lF); refine letM lF ?_; clear lF; intro m9 lF) | ((with_reducible show wpAny _ _ (binaryOp Operator.LShift (Value.int _ _) (Value.int _ _)) _ _ _); refine lshift_int (by first | with_reducible assumption | omega) (by first | with_reducible assumption | omega) ?_) | ((with_reducible show KswEnd _ _ _ _ _ _ _ _ _ _ _ _); (rename Fr _ _ _ _ => lF); (try dsimp +zetaDelta only at lF); (try dsimp +zetaDelta only); walk1) | (dsimp only; walk1) | walk1 | (leave1; try dsimp only) | fail "no step")
  all_goals (refine retI hret (by assumption) (by assumption) (by intro p h; simp only [List.mem_cons, h, or_true]) ?_)
  rw [f3]

end
section

/-- what holds between the turns of raised's loop -/
structure RInv (T S f sh mn mt sc : Int) : Prop where
  mn0 : 0 ≤ mn
  f0 : 1 ≤ f
  mt0 : 1 ≤ mt
  t : f * mt ^ mn.toNat = T
  s : sh + sc * mn = S
  w : Builtin.Int.intBits T ≤ 64
theorem le_pow {b : Int} (hb : 1 ≤ b) : ∀ k : Nat, 1 ≤ b ^ k
  | 0 => by simp
  | k + 1 => by
    have := le_pow hb k
    rw [Int.pow_succ]
    have : 1 * 1 ≤ b ^ k * b := Int.mul_le_mul this hb (by decide) (by omega)
    omega
theorem bits_mono {a b : Int} {k : Nat} (h0 : 0 ≤ a) (h : a ≤ b) (hb : Builtin.Int.intBits b ≤ k) : Builtin.Int.intBits a ≤ k := intBits_le_of_natAbs (by omega) hb
theorem RInv.wf {T S f sh mn mt sc : Int} (h : RInv T S f sh mn mt sc) : Builtin.Int.intBits f ≤ 64 := by
  have h1 := le_pow h.mt0 mn.toNat
  have h2 : f * 1 ≤ f * mt ^ mn.toNat := Int.mul_le_mul_of_nonneg_left h1 (by have := h.f0; omega)
  rw [h.t] at h2
  exact bits_mono (by have := h.f0; omega) (by omega) h.w
theorem RInv.bm {T S f sh mn mt sc : Int} (h : RInv T S f sh mn mt sc) {k : Nat} (hk : k ≤ mn.toNat) : 0 ≤ f * mt ^ k ∧ f * mt ^ k ≤ T := by
  have hf := h.f0
  have h1 := le_pow h.mt0 k
  have h2 := le_pow h.mt0 (mn.toNat - k)
  have e : mt ^ mn.toNat = mt ^ k * mt ^ (mn.toNat - k) := by rw [← Int.pow_add]; congr 1; omega
  have h3 : 0 ≤ f * mt ^ k := Int.mul_nonneg (by omega) (by omega)
  have h4 : f * mt ^ k * 1 ≤ f * mt ^ k * mt ^ (mn.toNat - k) := Int.mul_le_mul_of_nonneg_left h2 h3
  rw [Int.mul_assoc f (mt ^ k) (mt ^ (mn.toNat - k)), ← e, h.t] at h4
  omega
theorem RInv.f1 {T S f sh mn mt sc : Int} (h : RInv T S f sh mn mt sc) (hm : 0 < mn) : 0 ≤ f * mt ∧ Builtin.Int.intBits (f * mt) ≤ 200 := by
  have ⟨h1, h2⟩ := h.bm (k := 1) (by omega)
  rw [Int.pow_succ, Int.pow_zero, Int.one_mul] at h1 h2
  exact ⟨h1, Nat.le_trans (bits_mono h1 h2 h.w) (by decide)⟩
theorem RInv.m1 {T S f sh mn mt sc : Int} (h : RInv T S f sh mn mt sc) (hm : 0 < mn) : Builtin.Int.intBits mt ≤ 64 := by
  have ⟨h1, h2⟩ := h.bm (k := 1) (by omega)
  rw [Int.pow_succ, Int.pow_zero, Int.one_mul] at h1 h2
  have h3 : 1 * mt ≤ f * mt := Int.mul_le_mul_of_nonneg_right h.f0 (by have := h.mt0; omega)
  exact bits_mono (by have := h.mt0; omega) (by omega) h.w
theorem RInv.m2 {T S f sh mn mt sc : Int} (h : RInv T S f sh mn mt sc) (hm : 2 ≤ mn) : 0 ≤ mt * mt ∧ Builtin.Int.intBits (mt * mt) ≤ 200 := by
  have ⟨h1, h2⟩ := h.bm (k := 2) (by omega)
  rw [Int.pow_succ, Int.pow_succ, Int.pow_zero, Int.one_mul] at h1 h2
  have h0 : 0 ≤ mt * mt := Int.mul_nonneg (by have := h.mt0; omega) (by have := h.mt0; omega)
  have h3 : 1 * (mt * mt) ≤ f * (mt * mt) := Int.mul_le_mul_of_nonneg_right h.f0 h0
  exact ⟨h0, Nat.le_trans (bits_mono h0 (by omega) h.w) (by decide)⟩
theorem fdiv2 (x : Int) : x.fdiv 2 = x / 2 := Int.fdiv_eq_ediv_of_nonneg x (by decide)
theorem fmod2 (x : Int) : x.fmod 2 = x % 2 := Int.fmod_eq_emod_of_nonneg x (by decide)
theorem RInv.m3 {T S f sh mn mt sc : Int} (h : RInv T S f sh mn mt sc) (hm : 0 < mn.fdiv 2) : 0 ≤ mt * mt ∧ Builtin.Int.intBits (mt * mt) ≤ 200 := h.m2 (by rw [fdiv2] at hm; omega)
theorem RInv.m4 {T S f sh mn mt sc : Int} (h : RInv T S f sh mn mt sc) (hm : 0 < mn) (ho : mn.fmod 2 ≠ 1) : 0 ≤ mt * mt ∧ Builtin.Int.intBits (mt * mt) ≤ 200 := h.m2 (by rw [fmod2] at ho; omega)
theorem halfs {mn : Int} (h : 0 ≤ mn) : ∃ k r : Nat, mn.fdiv 2 = k ∧ mn.fmod 2 = r ∧ mn.toNat = 2 * k + r ∧ mn = 2 * (k : Int) + r ∧ (r = 0 ∨ r = 1) := by
  obtain ⟨n, rfl⟩ := Int.eq_ofNat_of_zero_le h
  have e : n = 2 * (n / 2) + n % 2 := (Nat.div_add_mod n 2).symm
  refine ⟨n / 2, n % 2, by rw [fdiv2]; rfl, by rw [fmod2]; rfl, e, ?_, Nat.mod_two_eq_zero_or_one n⟩
  have e' : ((n : Nat) : Int) = ((2 * (n / 2) + n % 2 : Nat) : Int) := congrArg _ e
  rw [Int.natCast_add, Int.natCast_mul] at e'
  exact e'
theorem RInv.pos {T S f sh mn mt sc : Int} (h : RInv T S f sh mn mt sc) : 1 ≤ f * mt ∧ 1 ≤ mt * mt := by
  have hf := h.f0
  have hm := h.mt0
  have h1 : 1 * 1 ≤ f * mt := Int.mul_le_mul hf hm (by decide) (by omega)
  have h2 : 1 * 1 ≤ mt * mt := Int.mul_le_mul hm hm (by decide) (by omega)
  exact ⟨by omega, by omega⟩
theorem RInv.done {T S f sh mn mt sc : Int} (h : RInv T S f sh mn mt sc) (hm : ¬ 0 < mn) : f = T ∧ sh = S := by
  have e : mn = 0 := by have := h.mn0; omega
  have h2 := h.t
  have h3 := h.s
  rw [e] at h2 h3
  exact ⟨by simpa using h2, by simpa using h3⟩
theorem half_lt {x : Int} (h : 0 < x) : (x.fdiv 2).toNat < x.toNat := by rw [fdiv2]; omega
theorem RInv.both {T S f sh mn mt sc : Int} (h : RInv T S f sh mn mt sc) : 1 ≤ (if mn.fmod 2 = 1 then f * mt else f) ∧ ∃ k : Nat, mn.fdiv 2 = k ∧ (if mn.fmod 2 = 1 then f * mt else f) * (mt * mt) ^ k = T ∧ (if mn.fmod 2 = 1 then sh + sc else sh) + 2 * sc * k = S := by
  obtain ⟨k, r, e1, e2, e3, e4, hr⟩ := halfs h.mn0
  have h1 := h.t
  have h2 := h.s
  have e5 : (mt * mt) ^ k = mt ^ (2 * k) := by rw [Int.pow_mul, Int.pow_succ, Int.pow_succ, Int.pow_zero, Int.one_mul]
  have e6 : 2 * sc * (k : Int) = sc * (2 * k) := by rw [Int.mul_comm 2 sc, Int.mul_assoc]
  rw [e3] at h1
  rw [e4] at h2
  rw [e2]
  rcases hr with rfl | rfl
  · rw [if_neg (by decide), if_neg (by decide)]
    refine ⟨h.f0, k, e1, ?_, ?_⟩
    · rw [e5]; exact h1
    · rw [e6]; rw [Int.natCast_zero, Int.add_zero] at h2; exact h2
  · rw [if_pos (by decide), if_pos (by decide)]
    refine ⟨h.pos.1, k, e1, ?_, ?_⟩
    · rw [e5, Int.mul_assoc, Int.mul_comm mt]; rw [Int.pow_succ] at h1; exact h1
    · rw [e6]; rw [Int.natCast_one, Int.mul_add, Int.mul_one] at h2; rw [Int.add_assoc, Int.add_comm sc]; exact h2
theorem RInv.next {T S f sh mn mt sc : Int} (h : RInv T S f sh mn mt sc) : RInv T S (if mn.fmod 2 = 1 then f * mt else f) (if mn.fmod 2 = 1 then sh + sc else sh) (mn.fdiv 2) (mt * mt) (2 * sc) := by
  obtain ⟨h1, k, e, h2, h3⟩ := h.both
  rw [e]
  exact ⟨Int.natCast_nonneg k, h1, h.pos.2, h2, h3, h.w⟩
theorem RInv.last {T S f sh mn mt sc : Int} (h : RInv T S f sh mn mt sc) (he : ¬ 0 < mn.fdiv 2) : RInv T S (if mn.fmod 2 = 1 then f * mt else f) (if mn.fmod 2 = 1 then sh + sc else sh) (mn.fdiv 2) mt sc := by
  obtain ⟨h1, k, e, h2, h3⟩ := h.both
  rw [e] at he ⊢
  have hk : k = 0 := Nat.eq_zero_of_le_zero (Int.ofNat_le.mp (Int.not_lt.mp he))
  subst hk
  rw [Int.pow_zero] at h2
  rw [Int.natCast_zero, Int.mul_zero] at h3
  exact ⟨Int.le_refl _, h1, h.mt0, by rw [show ((0 : Nat) : Int).toNat = 0 from rfl, Int.pow_zero]; exact h2, by rw [Int.natCast_zero, Int.mul_zero]; exact h3, h.w⟩
theorem c_trimmedA (w : World) (mt sc : Int) (lv : Value) (t u : Tok) (h0 : 0 ≤ mt) (hW : Builtin.Int.intBits mt ≤ 200) (hl : lv = .none ∨ ∃ i v, lv = .int i v) : Ct w 2 210 [.int mt t, .int sc u, lv] (RT2 mt sc) := by
  rcases hl with rfl | ⟨i, v, rfl⟩
  · exact c_trimmedN w mt sc t u h0 hW
  · exact c_trimmed w mt sc i t u v h0 hW
noncomputable def JA (a : Str) (u : Str → Option Value) (fl : Flow) (m' : Str → Option Value) : Prop := fl = Flow.next ∧ ∃ lv, (lv = .none ∨ ∃ i v, lv = .int i v) ∧ m' = over1 a lv u
theorem JA.int {a : Str} {i : Int} {v : Tok} {u : Str → Option Value} : JA a u .next (over1 a (.int i v) u) := ⟨rfl, _, Or.inr ⟨i, v, rfl⟩, rfl⟩
theorem JA.none {a : Str} {u : Str → Option Value} : JA a u .next (over1 a .none u) := ⟨rfl, _, Or.inl rfl, rfl⟩
noncomputable def J2 (a b : Str) (x y : Int) (u : Str → Option Value) (fl : Flow) (m' : Str → Option Value) : Prop := fl = Flow.next ∧ ∃ t1 t2, m' = over2 a b (.int x t1) (.int y t2) u
theorem J2.once {a b : Str} {x y x' y' : Int} {t1 t2 : Tok} {u : Str → Option Value} (e1 : x' = x) (e2 : y' = y) : J2 a b x y u .next (over2 a b (.int x' t1) (.int y' t2) u) := e1 ▸ e2 ▸ ⟨rfl, _, _, rfl⟩
theorem J2.self {a b : Str} {x y x' y' : Int} {t1 t2 : Tok} {u : Str → Option Value} (e1 : x' = x) (e2 : y' = y) (h1 : u a = some (.int x' t1)) (h2 : u b = some (.int y' t2)) : J2 a b x y u .next u := ⟨rfl, _, _, over2_self (e1 ▸ h1) (e2 ▸ h2)⟩
noncomputable def JR {T S f sh mn mt sc : Int} (_ : RInv T S f sh mn mt sc) (u : Str → Option Value) : Flow → (Str → Option Value) → Prop := J2 (Str.ofString "shift") (Str.ofString "found") (if mn.fmod 2 = 1 then sh + sc else sh) (if mn.fmod 2 = 1 then f * mt else f) u
theorem c_raised (w : World) (mt sc mn : Int) (t u v : Tok) (h0 : 1 ≤ mt) (hm : 0 ≤ mn) (hW : Builtin.Int.intBits (mt ^ mn.toNat) ≤ 64) : Ct w 3 203 [.int mt t, .int sc u, .int mn v] (RT2 (mt ^ mn.toNat) (sc * mn)) := by
  have f0 : RInv (mt ^ mn.toNat) (sc * mn) 1 0 mn mt sc := ⟨hm, by decide, h0, by simp, by simp, hW⟩
  intro mean mg mb dp un gd cn cs a ccd cl outer A₀ base h₀ L m news s Q E B F X N T hk hdp hun hret
  refine wpAny_call ?_
  k_dflt cell_enter
  refine letA ?_; intro A1
  (rename Fr _ _ _ _ => lF); refine letM lF ?_; clear lF; intro m9 lF
  repeat' (first | (k_unfold; (try dsimp only)) | (k_end; wrow_close) | ((with_reducible show wpAny _ _ (eval (Expr.BinOp _ _ _ _) _) _ _ _); k_dflt (refine Ev.bin2 (by k_asm) (by k_extra "ev") (by k_extra "ev") ?_); k_whole) | ((with_reducible show wpAny _ _ (PySem.isTrue (Expr.Compare _ [_] [_] _) _ _) _ _ _); k_dflt (refine Ev.cmp2 (by k_asm) (by k_extra "ev") (by k_extra "ev") ?_ rfl); k_whole) | ((with_reducible show wpAny _ _ (eval (Expr.Call (Expr.Name _ _) (_ :: _) [] _) _) _ _ _); k_dflt (refine Evs.call (by k_asm) (by k_asm) (by k_asm) (by k_is) (by k_is) (by k_extra "evs") ?_ rfl rfl rfl rfl rfl); k_whole) | ((with_reducible show wpAny _ _ (storeName _ _ _) _ _ _); walk1; (rename Fr _ _ _ _ => lF); refine letM lF ?_; clear lF; intro m9 lF) | ((with_reducible show wpAny _ _ (binaryOp Operator.LShift (Value.int _ _) (Value.int _ _)) _ _ _); refine lshift_int (by omega) (by omega) ?_) | ((with_reducible show KswEnd _ _ _ _ _ _ _ _ _ _ _ _); (rename Fr _ _ _ _ => lF); (try dsimp +zetaDelta only at lF); (try dsimp +zetaDelta only); walk1) | ((fail_if_success (with_reducible show wpAny _ _ (exec (Stmt.Assign [Expr.Name _ _] _ _) _) _ _ _)); first | (dsimp only; walk1) | walk1) | (leave1; try dsimp only) | fail "no step")
  (try dsimp only)
  (rename Fr _ _ _ _ => jF); (rename News _ _ _ _ => jN)
  refine' joinS (JA (Str.ofString "limit") ?ju) jF jN ?ja ?jb
  rotate_left
  · intro Q9 hQ
    repeat' (first | (k_unfold; (try dsimp only)) | (k_end; wrow_close) | ((with_reducible show wpAny _ _ (exec _ _) _ _ _); (try dsimp only); refine letQ ?_; intro Q8; walk1) | ((with_reducible show wpAny _ _ (eval (Expr.BinOp _ _ _ _) _) _ _ _); k_dflt (refine Ev.bin2 (by k_asm) (by k_extra "ev") (by k_extra "ev") ?_); k_whole) | ((with_reducible show wpAny _ _ (PySem.isTrue (Expr.Compare _ [_] [_] _) _ _) _ _ _); k_dflt (refine Ev.cmp2 (by k_asm) (by k_extra "ev") (by k_extra "ev") ?_ rfl); k_whole) | ((with_reducible show wpAny _ _ (eval (Expr.Call (Expr.Name _ _) (_ :: _) [] _) _) _ _ _); k_dflt (refine Evs.call (by k_asm) (by k_asm) (by k_asm) (by k_is) (by k_is) (by k_extra "evs") ?_ rfl rfl rfl rfl rfl); k_whole) | ((with_reducible show wpAny _ _ (storeName _ _ _) _ _ _); walk1; (rename Fr _ _ _ _ => lF); refine letM lF ?_; clear lF; intro m9 lF) | ((with_reducible show wpAny _ _ (binaryOp Operator.LShift (Value.int _ _) (Value.int _ _)) _ _ _); refine lshift_int (by omega) (by omega) ?_) | ((with_reducible show KswEnd _ _ _ _ _ _ _ _ _ _ _ _); (rename Fr _ _ _ _ => lF); (try dsimp +zetaDelta only at lF); (try dsimp +zetaDelta only); walk1) | (dsimp only; walk1) | walk1 | (leave1; try dsimp only) | fail "no step")
    all_goals first
      | exact joinEnd hQ (by k_asm) (by k_asm) (fun p h => h) JA.int
      | exact joinEnd hQ (by k_asm) (by k_asm) (fun p h => h) JA.none
  rintro v h' tk' m' F' N' ⟨rfl, lv, hlv, rfl⟩
  refine letM F' ?_; clear F'; intro m9 F'
  (try dsimp only); (try k_sweep); (try k_fold)
  k_with "exec While Compare cons nil" => k_while (fun script f sh mn1 mt1 sc1 => RInv (mt ^ mn.toNat) (sc * mn) f sh mn1 mt1 sc1) (fun script f sh mn1 mt1 sc1 => mn1.toNat) "found" "shift" "many" "mantissa" "scale"
  k_with "state" => first
    | assumption
    | exact RInv.next (by assumption)
    | exact RInv.last (by assumption) (by assumption)
  k_with "measure" => exact half_lt (by assumption)
  k_with "binaryOp Mult int int" => first
    | refine mul_int (hm := PySem.IntMulOk.of_left (RInv.wf (by assumption))) ?_
    | refine mul_int (hm := PySem.IntMulOk.of_left (RInv.m1 (by assumption) (by assumption))) ?_
  k_with "call ref" => first
    | (refine Ct.use (c_trimmedA w _ _ _ _ _ (RInv.f1 (by assumption) (by assumption)).1 (RInv.f1 (by assumption) (by assumption)).2 hlv) (by k_asm) (by k_asm) (by k_asm) (by k_asm) (by k_asm) (by first | exact rfl | assumption) (by first | exact room1 hdp (by decide) | ktr_room) (by first | exact units1 hun (by decide) | ktr_units) ?_; intro D9 tok1 tok2 c9 h9 tk9 F9 N9 l9; (try simp only [AllLt, and_true] at l9); (try dsimp only); (try k_sweep); (try k_fold))
    | (refine Ct.use (c_trimmedA w _ _ _ _ _ (RInv.m3 (by assumption) (by assumption)).1 (RInv.m3 (by assumption) (by assumption)).2 hlv) (by k_asm) (by k_asm) (by k_asm) (by k_asm) (by k_asm) (by first | exact rfl | assumption) (by first | exact room1 hdp (by decide) | ktr_room) (by first | exact units1 hun (by decide) | ktr_units) ?_; intro D9 tok1 tok2 c9 h9 tk9 F9 N9 l9; (try simp only [AllLt, and_true] at l9); (try dsimp only); (try k_sweep); (try k_fold))
  repeat' (first | (k_unfold; (try dsimp only)) | (k_end; wrow_close) | ((with_reducible show wpAny _ _ (eval (Expr.BinOp _ _ _ _) _) _ _ _); k_dflt (refine Ev.bin2 (by k_asm) (by k_extra "ev") (by k_extra "ev") ?_); k_whole) | ((with_reducible show wpAny _ _ (PySem.isTrue (Expr.Compare _ [_] [_] _) _ _) _ _ _); k_dflt (refine Ev.cmp2 (by k_asm) (by k_extra "ev") (by k_extra "ev") ?_ rfl); k_whole) | ((with_reducible show wpAny _ _ (eval (Expr.Call (Expr.Name _ _) (_ :: _) [] _) _) _ _ _); k_dflt (refine Evs.call (by k_asm) (by k_asm) (by k_asm) (by k_is) (by k_is) (by k_extra "evs") ?_ rfl rfl rfl rfl rfl); k_whole) | ((with_reducible show wpAny _ _ (storeName _ _ _) _ _ _); walk1; (rename Fr _ _ _ _ => lF); refine letM lF ?_; clear lF; intro m9 lF) | ((with_reducible show wpAny _ _ (binaryOp Operator.LShift (Value.int _ _) (Value.int _ _)) _ _ _); refine lshift_int (by omega) (by omega) ?_) | ((with_reducible show KswEnd _ _ _ _ _ _ _ _ _ _ _ _); (rename Fr _ _ _ _ => lF); (try dsimp +zetaDelta only at lF); (try dsimp +zetaDelta only); walk1) | ((fail_if_success (with_reducible show wpAny _ _ (exec (Stmt.If (Expr.Compare _ [CmpOp.Eq] _ _) _ _ _) _) _ _ _)); first | (dsimp only; walk1) | walk1) | (leave1; try dsimp only) | fail "no step")
  · (try dsimp only)
    (rename Fr _ _ _ _ => jF); (rename News _ _ _ _ => jN); (rename RInv _ _ _ _ _ _ _ => hR)
    refine' joinS (JR hR ?ju2) jF jN ?ja2 ?jb2
    rotate_left
    · intro Q9 hQ
      repeat' (first | (k_unfold; (try dsimp only)) | (k_end; wrow_close) | ((with_reducible show wpAny _ _ (exec _ _) _ _ _); (try dsimp only); refine letQ ?_; intro Q8; walk1) | ((with_reducible show wpAny _ _ (eval (Expr.BinOp _ _ _ _) _) _ _ _); k_dflt (refine Ev.bin2 (by k_asm) (by k_extra "ev") (by k_extra "ev") ?_); k_whole) | ((with_reducible show wpAny _ _ (PySem.isTrue (Expr.Compare _ [_] [_] _) _ _) _ _ _); k_dflt (refine Ev.cmp2 (by k_asm) (by k_extra "ev") (by k_extra "ev") ?_ rfl); k_whole) | ((with_reducible show wpAny _ _ (eval (Expr.Call (Expr.Name _ _) (_ :: _) [] _) _) _ _ _); k_dflt (refine Evs.call (by k_asm) (by k_asm) (by k_asm) (by k_is) (by k_is) (by k_extra "evs") ?_ rfl rfl rfl rfl rfl); k_whole) | ((with_reducible show wpAny _ _ (storeName _ _ _) _ _ _); walk1; (rename Fr _ _ _ _ => lF); refine letM lF ?_; clear lF; intro m9 lF) | ((with_reducible show wpAny _ _ (binaryOp Operator.LShift (Value.int _ _) (Value.int _ _)) _ _ _); refine lshift_int (by omega) (by omega) ?_) | ((with_reducible show KswEnd _ _ _ _ _ _ _ _ _ _ _ _); (rename Fr _ _ _ _ => lF); (try dsimp +zetaDelta only at lF); (try dsimp +zetaDelta only); walk1) | (dsimp only; walk1) | walk1 | (leave1; try dsimp only) | fail "no step")
      all_goals first
        | exact joinEnd hQ (by k_asm) (by k_asm) (fun p h => h) (J2.self (if_neg (by assumption)).symm (if_neg (by assumption)).symm rfl rfl)
        | exact joinEnd hQ (by k_asm) (by k_asm) (fun p h => List.mem_cons_of_mem _ h) (J2.once (if_pos (by assumption)).symm (if_pos (by assumption)).symm)
    rintro v h' tk' m' F' N' ⟨rfl, t1, t2, rfl⟩
    unfold over2 at F'
    refine letM F' ?_; clear F'; intro m9 F'
    (try dsimp only); (try k_sweep); (try k_fold)
    repeat' (first | (k_unfold; (try dsimp only)) | (k_end; wrow_close) | ((with_reducible show wpAny _ _ (exec _ _) _ _ _); (try dsimp only); refine letQ ?_; intro Q8; walk1) | ((with_reducible show wpAny _ _ (eval (Expr.BinOp _ _ _ _) _) _ _ _); k_dflt (refine Ev.bin2 (by k_asm) (by k_extra "ev") (by k_extra "ev") ?_); k_whole) | ((with_reducible show wpAny _ _ (PySem.isTrue (Expr.Compare _ [_] [_] _) _ _) _ _ _); k_dflt (refine Ev.cmp2 (by k_asm) (by k_extra "ev") (by k_extra "ev") ?_ rfl); k_whole) | ((with_reducible show wpAny _ _ (eval (Expr.Call (Expr.Name _ _) (_ :: _) [] _) _) _ _ _); k_dflt (refine Evs.call (by k_asm) (by k_asm) (by k_asm) (by k_is) (by k_is) (by k_extra "evs") ?_ rfl rfl rfl rfl rfl); k_whole) | ((with_reducible show wpAny _ _ (storeName _ _ _) _ _ _); walk1; (rename Fr _ _ _ _ => lF); refine letM lF ?_; clear lF; intro m9 lF) | ((with_reducible show wpAny _ _ (binaryOp Operator.LShift (Value.int _ _) (Value.int _ _)) _ _ _); refine lshift_int (by omega) (by omega) ?_) | ((with_reducible show KswEnd _ _ _ _ _ _ _ _ _ _ _ _); (rename Fr _ _ _ _ => lF); (try dsimp +zetaDelta only at lF); (try dsimp +zetaDelta only); walk1) | (dsimp only; walk1) | walk1 | (leave1; try dsimp only) | fail "no step")
  · exact retT2 hret (by assumption) (by assumption) (by exact List.Mem.head _) (by intro p h; simp only [List.mem_cons, h, or_true]) (by first | exact allLt_of (by assumption) | exact And.right (by assumption)) (RInv.done (by assumption) (by assumption)).1 (RInv.done (by assumption) (by assumption)).2

end
section

/-- what holds between the turns of whole_power's loop -/
structure WInv (o S m sc : Int) : Prop where
  o0 : 1 ≤ o
  o1 : o % 2 = 1
  e : ∃ i : Nat, m = o * 2 ^ i ∧ sc + i = S
theorem WInv.step {o S m sc : Int} (h : WInv o S m sc) (he : m.fmod 2 = 0) : WInv o S (m.fdiv (2 ^ Int.toNat 1)) (sc + 1) := by
  obtain ⟨o0, o1, i, rfl, hs⟩ := h
  refine ⟨o0, o1, ?_⟩
  cases i with
  | zero => rw [fmod2] at he; simp at he; omega
  | succ i =>
    refine ⟨i, ?_, by omega⟩
    rw [two1, fdiv2, Int.pow_succ, ← Int.mul_assoc]
    omega
theorem WInv.less {o S m sc : Int} (h : WInv o S m sc) (he : m.fmod 2 = 0) : (m.fdiv (2 ^ Int.toNat 1)).toNat < m.toNat := by
  obtain ⟨o0, o1, i, rfl, hs⟩ := h
  have := shl_pos i (b := o) (by omega)
  rw [two1, fdiv2]
  omega
theorem WInv.done {o S m sc : Int} (h : WInv o S m sc) (he : m.fmod 2 ≠ 0) : m = o ∧ sc = S := by
  obtain ⟨o0, o1, i, rfl, hs⟩ := h
  cases i with
  | zero => simp at hs ⊢; exact hs
  | succ i =>
    exfalso
    rw [fmod2, Int.pow_succ, ← Int.mul_assoc] at he
    omega
theorem c_raisedW (w : World) (o S m1 sc1 K tp P : Int) (t u v : Tok) (h : WInv o S m1 sc1) (he : m1.fmod 2 ≠ 0) (hK : 0 ≤ K) (hT : o ^ K.toNat = tp) (hP : S * K = P) (hW : Builtin.Int.intBits tp ≤ 60) : Ct w 3 203 [.int m1 t, .int sc1 u, .int K v] (RT2 tp P) := by
  have o0 := h.o0
  obtain ⟨rfl, rfl⟩ := h.done he
  subst hT hP
  exact c_raised w _ _ _ t u v o0 hK (Nat.le_trans hW (by decide))
theorem ab_ge (n : Int) : 0 ≤ (if n < 0 then -n else n) := by split <;> omega
theorem c_whole_power (w : World) (s o sc mn : Int) (j : Nat) (t u v x : Tok) (hs0 : 0 ≤ s) (hs1 : s ≤ 1) (o0 : 1 ≤ o) (o1 : o % 2 = 1) (hmn : mn ≠ 0)
    (hW : Builtin.Int.intBits (o ^ (if mn < 0 then -mn else mn).toNat) ≤ 60) (hp0 : -1000 ≤ (sc + j) * (if mn < 0 then -mn else mn)) (hp1 : (sc + j) * (if mn < 0 then -mn else mn) ≤ 960) :
    Ct w 5 196 [.int s t, .int (o * 2 ^ j) u, .int sc v, .int mn x] (RI (
      if 0 < mn then rs s (o ^ (if mn < 0 then -mn else mn).toNat) ((sc + j) * (if mn < 0 then -mn else mn))
      else if 0 ≤ (sc + j) * (if mn < 0 then -mn else mn) then rr s 1 (o ^ (if mn < 0 then -mn else mn).toNat * 2 ^ ((sc + j) * (if mn < 0 then -mn else mn)).toNat)
      else rr s (1 * 2 ^ (-((sc + j) * (if mn < 0 then -mn else mn))).toNat) (o ^ (if mn < 0 then -mn else mn).toNat))) := by
  have f0 : WInv o (sc + j) (o * 2 ^ j) sc := ⟨o0, o1, j, rfl, rfl⟩
  have f1 : 1 ≤ o ^ (if mn < 0 then -mn else mn).toNat := le_pow o0 _
  generalize hP : (sc + j) * (if mn < 0 then -mn else mn) = P at *
  generalize hT : o ^ (if mn < 0 then -mn else mn).toNat = tp at *
  have f2 : 0 ≤ P → Builtin.Int.intBits (tp * 2 ^ P.toNat) ≤ 2000 := fun h => by
    have := W_mul (x := tp) (by omega) P.toNat
    unfold W at this
    omega
  have f3 : Builtin.Int.intBits (1 * 2 ^ (-P).toNat) ≤ 2000 := by
    have := W_mul (x := 1) (by omega) (-P).toNat
    have h1 : W 1 = 1 := by decide
    unfold W at this h1
    omega
  have f4 : Builtin.Int.intBits 1 = 1 := by decide
  have fK : 0 ≤ (if mn < 0 then -mn else mn) := ab_ge mn
  have g1 : -1073 ≤ (Builtin.Int.intBits tp : Int) + P := Int.le_trans (Int.le_trans (by decide) hp0) (Int.le_add_of_nonneg_left (Int.natCast_nonneg _))
  have g2 : (Builtin.Int.intBits tp : Int) + P ≤ 1024 := by omega
  intro mean mg mb dp un gd cn cs a ccd cl outer A₀ base h₀ L m news s Q E B F X N T hk hdp hun hret
  refine wpAny_call ?_
  k_dflt cell_enter
  refine letA ?_; intro A1
  (rename Fr _ _ _ _ => lF); refine letM lF ?_; clear lF; intro m9 lF
  k_with "exec While Compare cons nil" => k_while (fun script m1 sc1 => WInv o (sc + j) m1 sc1) (fun script m1 sc1 => m1.toNat) "mantissa" "scale"
  k_with "state" => first | assumption | exact WInv.step (by assumption) (by assumption)
  k_with "measure" => exact WInv.less (by assumption) (by assumption)
  k_with "call ref" => (refine Ct.use (c_width w _ _ (Int.le_of_lt f1)) (by k_asm) (by k_asm) (by k_asm) (by k_asm) (by k_asm) (by first | exact rfl | assumption) (by first | exact room1 hdp (by decide) | ktr_room) (by first | exact units1 hun (by decide) | ktr_units) ?_; intro t9 h9 tk9 F9 N9; (try dsimp only); (try k_sweep); (try k_fold))
  k_with "call ref" => (refine Ct.use (c_raisedW w o (sc + j) _ _ _ tp P _ _ _ (by assumption) (by assumption) fK hT hP hW) (by k_asm) (by k_asm) (by k_asm) (by k_asm) (by k_asm) (by first | exact rfl | assumption) (by first | exact room1 hdp (by decide) | ktr_room) (by first | exact units1 hun (by decide) | ktr_units) ?_; intro D9 tok1 tok2 c9 h9 tk9 F9 N9 l9; (try simp only [AllLt, and_true] at l9); (try dsimp only); (try k_sweep); (try k_fold))
  k_with "call ref" => first
    | (refine Ct.use (c_round_scaled w _ _ _ _ _ _ (by assumption) (by assumption) f1 (Nat.le_trans hW (by decide)) g1 g2) (by k_asm) (by k_asm) (by k_asm) (by k_asm) (by k_asm) (by first | exact rfl | assumption) (by first | exact room1 hdp (by decide) | ktr_room) (by first | exact units1 hun (by decide) | ktr_units) ?_; intro t9 h9 tk9 F9 N9; (try dsimp only); (try k_sweep); (try k_fold))
    | (refine Ct.use (c_round_ratio w _ _ _ _ _ _ (by assumption) (by assumption) (by decide) (shl_pos _ f1) (by rw [f4]; decide) (f2 (by assumption))) (by k_asm) (by k_asm) (by k_asm) (by k_asm) (by k_asm) (by first | exact rfl | assumption) (by first | exact room1 hdp (by decide) | ktr_room) (by first | exact units1 hun (by decide) | ktr_units) ?_; intro t9 h9 tk9 F9 N9; (try dsimp only); (try k_sweep); (try k_fold))
    | (refine Ct.use (c_round_ratio w _ _ _ _ _ _ (by assumption) (by assumption) (shl_pos _ (by decide)) f1 f3 (Nat.le_trans hW (by decide))) (by k_asm) (by k_asm) (by k_asm) (by k_asm) (by k_asm) (by first | exact rfl | assumption) (by first | exact room1 hdp (by decide) | ktr_room) (by first | exact units1 hun (by decide) | ktr_units) ?_; intro t9 h9 tk9 F9 N9; (try dsimp only); (try k_sweep); (try k_fold))
  repeat' (first | (k_unfold; (try dsimp only)) | (k_end; wrow_close) | ((with_reducible show wpAny _ _ (exec _ _) _ _ _); (try dsimp only); refine letQ ?_; intro Q8; walk1) | ((with_reducible show wpAny _ _ (eval (Expr.BinOp _ _ _ _) _) _ _ _); k_dflt (refine Ev.bin2 (by k_asm) (by k_extra "ev") (by k_extra "ev") ?_); k_whole) | ((with_reducible show wpAny _ _ (PySem.isTrue (Expr.Compare _ [_] [_] _) _ _) _ _ _); k_dflt (refine Ev.cmp2 (by k_asm) (by k_extra "ev") (by k_extra "ev") ?_ rfl); k_whole) | ((with_reducible show wpAny _ _ (eval (Expr.Call (Expr.Name _ _) (_ :: _) [] _) _) _ _ _); k_dflt (refine Evs.call (by k_asm) (by k_asm) (by k_asm) (by k_is) (by k_is) (by k_extra "evs") ?_ rfl rfl rfl rfl rfl); k_whole) | ((with_reducible show wpAny _ _ (storeName _ _ _) _ _ _); walk1; (rename Fr _ _ _ _ => lF); refine letM lF ?_; clear lF; intro m9 lF) | ((with_reducible show wpAny _ _ (binaryOp Operator.LShift (Value.int _ _) (Value.int _ _)) _ _ _); refine lshift_int (by first | with_reducible assumption | omega) (by first | with_reducible assumption | omega) ?_) | ((with_reducible show KswEnd _ _ _ _ _ _ _ _ _ _ _ _); (rename Fr _ _ _ _ => lF); (try dsimp +zetaDelta only at lF); (try dsimp +zetaDelta only); walk1) | (dsimp only; walk1) | walk1 | (leave1; try dsimp only) | fail "no step")
  all_goals (refine retI hret (by assumption) (by assumption) (by intro p h; simp only [List.mem_cons, h, or_true]) ?_)
  · exact (if_pos (by assumption)).symm
  · exact ((if_neg (by assumption)).trans (if_pos (by assumption))).symm
  · exact ((if_neg (by assumption)).trans (if_neg (by assumption))).symm

end
section

theorem c_power0 (w : World) (v : Int) (t u : Tok) : Ct w 6 189 [.int v t, .int 0 u] (RI 4607182418800017408) := by
  intro mean mg mb dp un gd cn cs a ccd cl outer A₀ base h₀ L m news s Q E B F X N T hk hdp hun hret
  refine wpAny_call ?_
  k_dflt cell_enter
  refine letA ?_; intro A1
  (rename Fr _ _ _ _ => lF); refine letM lF ?_; clear lF; intro m9 lF
  k_with "call ref" => (refine Ct.use (c_is_nan w _ _) (by k_asm) (by k_asm) (by k_asm) (by k_asm) (by k_asm) (by first | exact rfl | assumption) (by first | exact room1 hdp (by decide) | ktr_room) (by first | exact units1 hun (by decide) | ktr_units) ?_; intro h9 tk9 F9 N9; (try dsimp only); (try k_sweep); (try k_fold))
  k_with "call ref" => (refine Ct.use (c_is_zero w _ _) (by k_asm) (by k_asm) (by k_asm) (by k_asm) (by k_asm) (by first | exact rfl | assumption) (by first | exact room1 hdp (by decide) | ktr_room) (by first | exact units1 hun (by decide) | ktr_units) ?_; intro h9 tk9 F9 N9; (try dsimp only); (try k_sweep); (try k_fold))
  repeat' (first | (k_unfold; (try dsimp only)) | (k_end; wrow_close) | ((with_reducible show wpAny _ _ (exec _ _) _ _ _); (try dsimp only); refine letQ ?_; intro Q8; walk1) | ((with_reducible show wpAny _ _ (eval (Expr.BinOp _ _ _ _) _) _ _ _); k_dflt (refine Ev.bin2 (by k_asm) (by k_extra "ev") (by k_extra "ev") ?_); k_whole) | ((with_reducible show wpAny _ _ (PySem.isTrue (Expr.Compare _ [_] [_] _) _ _) _ _ _); k_dflt (refine Ev.cmp2 (by k_asm) (by k_extra "ev") (by k_extra "ev") ?_ rfl); k_whole) | ((with_reducible show wpAny _ _ (eval (Expr.Call (Expr.Name _ _) (_ :: _) [] _) _) _ _ _); k_dflt (refine Evs.call (by k_asm) (by k_asm) (by k_asm) (by k_is) (by k_is) (by k_extra "evs") ?_ rfl rfl rfl rfl rfl); k_whole) | ((with_reducible show wpAny _ _ (storeName _ _ _) _ _ _); walk1; (rename Fr _ _ _ _ => lF); refine letM lF ?_; clear lF; intro m9 lF) | ((with_reducible show wpAny _ _ (binaryOp Operator.LShift (Value.int _ _) (Value.int _ _)) _ _ _); refine lshift_int (by first | with_reducible assumption | omega) (by first | with_reducible assumption | omega) ?_) | ((with_reducible show KswEnd _ _ _ _ _ _ _ _ _ _ _ _); (rename Fr _ _ _ _ => lF); (try dsimp +zetaDelta only at lF); (try dsimp +zetaDelta only); walk1) | (dsimp only; walk1) | walk1 | (leave1; try dsimp only) | fail "no step")
  all_goals (refine retI hret (by assumption) (by assumption) (by intro p h; simp only [List.mem_cons, h, or_true]) ?_)
  rfl
/-- what whole_power gives back -/
noncomputable def wp (s o S mn : Int) : Int :=
  if 0 < mn then rs s (o ^ (if mn < 0 then -mn else mn).toNat) (S * (if mn < 0 then -mn else mn))
  else if 0 ≤ S * (if mn < 0 then -mn else mn) then rr s 1 (o ^ (if mn < 0 then -mn else mn).toNat * 2 ^ (S * (if mn < 0 then -mn else mn)).toNat)
  else rr s (1 * 2 ^ (-(S * (if mn < 0 then -mn else mn))).toNat) (o ^ (if mn < 0 then -mn else mn).toNat)
theorem c_powerD (w : World) (a b s o x k m' x' : Int) (j : Nat) (t u : Tok) (ha : Dbl a s (o * 2 ^ j) x) (hb : IntD b k m' x') (o0 : 1 ≤ o) (o1 : o % 2 = 1)
    (hW : Builtin.Int.intBits (o ^ (if k < 0 then -k else k).toNat) ≤ 60) (hp0 : -1000 ≤ (x + j) * (if k < 0 then -k else k)) (hp1 : (x + j) * (if k < 0 then -k else k) ≤ 960) :
    Ct w 6 189 [.int a t, .int b u] (RI (wp (if s = 1 ∧ k.fmod 2 = 1 then 1 else 0) o (x + j) k)) := by
  have k0 := hb.k0
  intro mean mg mb dp un gd cn cs a ccd cl outer A₀ base h₀ L m news s Q E B F X N T hk hdp hun hret
  refine wpAny_call ?_
  k_dflt cell_enter
  refine letA ?_; intro A1
  (rename Fr _ _ _ _ => lF); refine letM lF ?_; clear lF; intro m9 lF
  k_with "call ref" => first | (refine Ct.use (c_is_nanF w _ _ _ _ _ ha) (by k_asm) (by k_asm) (by k_asm) (by k_asm) (by k_asm) (by first | exact rfl | assumption) (by first | exact room1 hdp (by decide) | ktr_room) (by first | exact units1 hun (by decide) | ktr_units) ?_; intro h9 tk9 F9 N9; (try dsimp only); (try k_sweep); (try k_fold)) | (refine Ct.use (c_is_nanF w _ _ _ _ _ hb.d) (by k_asm) (by k_asm) (by k_asm) (by k_asm) (by k_asm) (by first | exact rfl | assumption) (by first | exact room1 hdp (by decide) | ktr_room) (by first | exact units1 hun (by decide) | ktr_units) ?_; intro h9 tk9 F9 N9; (try dsimp only); (try k_sweep); (try k_fold))
  k_with "call ref" => first | (refine Ct.use (c_is_infF w _ _ _ _ _ ha) (by k_asm) (by k_asm) (by k_asm) (by k_asm) (by k_asm) (by first | exact rfl | assumption) (by first | exact room1 hdp (by decide) | ktr_room) (by first | exact units1 hun (by decide) | ktr_units) ?_; intro h9 tk9 F9 N9; (try dsimp only); (try k_sweep); (try k_fold)) | (refine Ct.use (c_is_infF w _ _ _ _ _ hb.d) (by k_asm) (by k_asm) (by k_asm) (by k_asm) (by k_asm) (by first | exact rfl | assumption) (by first | exact room1 hdp (by decide) | ktr_room) (by first | exact units1 hun (by decide) | ktr_units) ?_; intro h9 tk9 F9 N9; (try dsimp only); (try k_sweep); (try k_fold))
  k_with "call ref" => first | (refine Ct.use (c_is_zeroF w _ _ _ _ _ ha) (by k_asm) (by k_asm) (by k_asm) (by k_asm) (by k_asm) (by first | exact rfl | assumption) (by first | exact room1 hdp (by decide) | ktr_room) (by first | exact units1 hun (by decide) | ktr_units) ?_; intro h9 tk9 F9 N9; (try dsimp only); (try k_sweep); (try k_fold)) | (refine Ct.use (c_is_zeroF w _ _ _ _ _ hb.d) (by k_asm) (by k_asm) (by k_asm) (by k_asm) (by k_asm) (by first | exact rfl | assumption) (by first | exact room1 hdp (by decide) | ktr_room) (by first | exact units1 hun (by decide) | ktr_units) ?_; intro h9 tk9 F9 N9; (try dsimp only); (try k_sweep); (try k_fold))
  k_with "call ref" => (refine Ct.use (c_parts w _ _ _ _ _ ha) (by k_asm) (by k_asm) (by k_asm) (by k_asm) (by k_asm) (by first | exact rfl | assumption) (by first | exact room1 hdp (by decide) | ktr_room) (by first | exact units1 hun (by decide) | ktr_units) ?_; intro D9 tok1 tok2 tok3 c9 h9 tk9 F9 N9 l9; (try simp only [AllLt, and_true] at l9); (try dsimp only); (try k_sweep); (try k_fold))
  k_with "call ref" => (refine Ct.use (c_is_whole w _ _ _ _ _ hb) (by k_asm) (by k_asm) (by k_asm) (by k_asm) (by k_asm) (by first | exact rfl | assumption) (by first | exact room1 hdp (by decide) | ktr_room) (by first | exact units1 hun (by decide) | ktr_units) ?_; intro h9 tk9 F9 N9; (try dsimp only); (try k_sweep); (try k_fold))
  k_with "call ref" => (refine Ct.use (c_is_odd w _ _ _ _ _ hb) (by k_asm) (by k_asm) (by k_asm) (by k_asm) (by k_asm) (by first | exact rfl | assumption) (by first | exact room1 hdp (by decide) | ktr_room) (by first | exact units1 hun (by decide) | ktr_units) ?_; intro h9 tk9 F9 N9; (try dsimp only); (try k_sweep); (try k_fold))
  k_with "call ref" => (refine Ct.use (c_to_int w _ _ _ _ _ hb) (by k_asm) (by k_asm) (by k_asm) (by k_asm) (by k_asm) (by first | exact rfl | assumption) (by first | exact room1 hdp (by decide) | ktr_room) (by first | exact units1 hun (by decide) | ktr_units) ?_; intro t9 h9 tk9 F9 N9; (try dsimp only); (try k_sweep); (try k_fold))
  k_with "call ref" => (refine Ct.use (c_whole_power w _ _ _ _ j _ _ _ _ (by omega) (by omega) o0 o1 k0 hW hp0 hp1) (by k_asm) (by k_asm) (by k_asm) (by k_asm) (by k_asm) (by first | exact rfl | assumption) (by first | exact room1 hdp (by decide) | ktr_room) (by first | exact units1 hun (by decide) | ktr_units) ?_; intro t9 h9 tk9 F9 N9; (try dsimp only); (try k_sweep); (try k_fold))
  repeat' (first | (k_unfold; (try dsimp only)) | (k_end; wrow_close) | ((with_reducible show wpAny _ _ (exec _ _) _ _ _); (try dsimp only); refine letQ ?_; intro Q8; walk1) | ((with_reducible show wpAny _ _ (eval (Expr.BinOp _ _ _ _) _) _ _ _); k_dflt (refine Ev.bin2 (by k_asm) (by k_extra "ev") (by k_extra "ev") ?_); k_whole) | ((with_reducible show wpAny _ _ (PySem.isTrue (Expr.Compare _ [_] [_] _) _ _) _ _ _); k_dflt (refine Ev.cmp2 (by k_asm) (by k_extra "ev") (by k_extra "ev") ?_ rfl); k_whole) | ((with_reducible show wpAny _ _ (eval (Expr.Call (Expr.Name _ _) (_ :: _) [] _) _) _ _ _); k_dflt (refine Evs.call (by k_asm) (by k_asm) (by k_asm) (by k_is) (by k_is) (by k_extra "evs") ?_ rfl rfl rfl rfl rfl); k_whole) | ((with_reducible show wpAny _ _ (storeName _ _ _) _ _ _); walk1; (rename Fr _ _ _ _ => lF); refine letM lF ?_; clear lF; intro m9 lF) | ((with_reducible show wpAny _ _ (binaryOp Operator.LShift (Value.int _ _) (Value.int _ _)) _ _ _); refine lshift_int (by first | with_reducible assumption | omega) (by first | with_reducible assumption | omega) ?_) | ((with_reducible show KswEnd _ _ _ _ _ _ _ _ _ _ _ _); (rename Fr _ _ _ _ => lF); (try dsimp +zetaDelta only at lF); (try dsimp +zetaDelta only); walk1) | (dsimp only; walk1) | walk1 | (leave1; try dsimp only) | fail "no step")
  all_goals (refine retI hret (by assumption) (by assumption) (by intro p h; simp only [List.mem_cons, h, or_true]) ?_)
  · exact congrArg (fun z => wp z o (x + j) k) (if_pos ⟨by assumption, by assumption⟩).symm
  · exact congrArg (fun z => wp z o (x + j) k) (if_neg (fun h => absurd h.2 (by assumption))).symm
  · exact congrArg (fun z => wp z o (x + j) k) (if_neg (fun h => absurd h.1 (by assumption))).symm

end
section

theorem all_ne {l : List (Addr × Obj)} {a b : Addr} (h : ∀ p ∈ l, p.1 < a) (hb : a ≤ b) : ∀ p ∈ l, p.1 ≠ b := fun p hp => Nat.ne_of_lt (Nat.lt_of_lt_of_le (h p hp) hb)
theorem setW1 : True := by
  k_with "way1" =>
    (exact all_ne (by assumption) (by first | exact Nat.le_succ _ | exact Nat.le_refl _))
  trivial
local macro_rules | `(tactic| k_all) => `(tactic| k_extra "way1")
theorem setW2 : True := by
  k_with "way2" =>
    (k_here; k_dflt (refine LCt.CompSrcT.range (by rfl) (by k_asm) (by k_asm) (by assumption) (by first | decide | rfl) (by first | rfl | decide) (by first | size_fits | exact Nat.le_of_ble_eq_true rfl) ?_; intro g'; show LCt.CompRestT _ _ _ _ _ _ _ _ _ _ _ _ _ _ _ _ 4 _ _ _))
  trivial
local macro_rules | `(tactic| walk_at "CompSrcT") => `(tactic| k_extra "way2")
theorem compEnd_self {h₀ : Heap} {L I C D : Addr} {m : Str → Option Value} {s₁ : Shared} {oI oC oD : Obj} {S : List (Addr × Obj) → Prop} {rest : Value → List (Addr × Obj) → Prop} {y : Value} {h' : Heap} {tk : Nat} {news' : List (Addr × Obj)}
    (F : Fr h₀ L h' m) (N : News h₀ L h' ((I, oI) :: (C, oC) :: (D, oD) :: news')) (off : LCg.Off3 I C D news') (hS : S news') (r : rest y news') :
    LCg.CompEnd h₀ L m s₁ I oI C oC D oD S rest y { s₁ with heap := h', toks := tk } := ⟨h', tk, news', rfl, F, N, off, hS, r⟩
theorem setW3 : True := by
  k_with "way3" =>
    (with_unfolding_all first
      | (refine LCt.CompRestT.succ ?_; intro v' I' oI' C' oC' D' m' h' tk' E' hv' hC' hx' F' N' off' ne'; obtain ⟨t9', hv9'⟩ := hv'; subst hv9')
      | refine LCt.CompRestT.zero ?_)
  trivial
local macro_rules | `(tactic| walk_at "CompRestT") => `(tactic| k_extra "way3")
theorem pow_val {prog : Program} {w : World} {A : Around} {E : Value → Shared → Prop} {s : Shared} {a n r : Int} {t u : Tok} {Q : Value → Shared → Prop} (hr : a ^ n.toNat = r) (hn : 0 ≤ n) (hn2 : n ≤ 1000000) (ha : a.natAbs < 2 ^ 64) (h : Q (.int r s.toks) { s with toks := s.toks + 1 }) :
    wpAny (model prog w) A (binaryOp .Pow (.int a t) (.int n u)) Q E s := pow_int_small hn hn2 ha (by rw [hr]; exact h)
theorem setW4 : True := by
  k_with "way4" =>
    (rename LCg.Off3 _ _ _ _ => kO; first
      | (refine pow_val (r := 2) (by decide) (by decide) (by decide) (by decide) ?_)
      | (refine pow_val (r := 4) (by decide) (by decide) (by decide) (by decide) ?_)
      | (refine pow_val (r := 8) (by decide) (by decide) (by decide) (by decide) ?_)
      | (refine pow_val (r := 16) (by decide) (by decide) (by decide) (by decide) ?_))
  trivial
local macro_rules | `(tactic| walk_at "binaryOp Pow int int") => `(tactic| k_extra "way4")
theorem setW5 : True := by
  k_with "way5" =>
    (rename Fr _ _ _ _ => kF; rename News _ _ _ _ => kN; rename LCg.Off3 _ _ _ _ => kO; refine compEnd_self kF kN kO trivial ?_)
  trivial
local macro_rules | `(tactic| walk_at "CompEnd") => `(tactic| k_extra "way5")
theorem sumOnes {prog : Program} {w : World} {A : Around} {E : Value → Shared → Prop} {s : Shared} {h₀ : Heap} {L : Addr} {m : Str → Option Value} {news : List (Addr × Obj)} {D : Addr} {ys : List Value} {Q : Value → Shared → Prop} (ns : List Int) (k : Int) (hs : ns.sum = k)
    (hh : A.handled = none) (F : Fr h₀ L s.heap m) (N : News h₀ L s.heap ((D, LCg.lst ys) :: news)) (hi : IntsAre ys ns) (h : ∀ h' tk t', Fr h₀ L h' m → News h₀ L h' news → Q (.int k t') { s with heap := h', toks := tk }) :
    wpAny (model prog w) A (call (.builtin "sum") [.ref D]) Q E s := by
  subst hs
  exact sumK hh F N (N.isList (List.Mem.head _)) hi fun h' tk t' F' N' => h h' tk t' F' fun p hp => N' p (List.mem_cons_of_mem _ hp)
theorem onesAre0 : IntsAre [] [] := .nil
theorem onesAre1 {a : Tok} : IntsAre ([] ++ [.int 1 a]) [1] := .cons _ _ .nil
theorem onesAre2 {a b : Tok} : IntsAre ([] ++ [.int 1 a] ++ [.int 1 b]) [1, 1] := .cons _ _ (.cons _ _ .nil)
theorem onesAre3 {a b c : Tok} : IntsAre ([] ++ [.int 1 a] ++ [.int 1 b] ++ [.int 1 c]) [1, 1, 1] := .cons _ _ (.cons _ _ (.cons _ _ .nil))
theorem onesAre4 {a b c d : Tok} : IntsAre ([] ++ [.int 1 a] ++ [.int 1 b] ++ [.int 1 c] ++ [.int 1 d]) [1, 1, 1, 1] := .cons _ _ (.cons _ _ (.cons _ _ (.cons _ _ .nil)))
theorem setW6 : True := by
  k_with "way6" =>
    ((unfold LCg.FinE); intro D' h' tk' F' N' o1'; (repeat (rename LCg.Off3 _ _ _ _ => kO; clear kO)); (try dsimp only))
  trivial
local macro_rules | `(tactic| walk_at "FinE") => `(tactic| k_extra "way6")
theorem setW7 : True := by
  k_with "way7" =>
    (rename Fr _ _ _ _ => sF; rename News _ _ _ _ => sN; first
      | (refine sumOnes [] 0 rfl (by with_unfolding_all rfl) sF sN onesAre0 ?_)
      | (refine sumOnes [1] 1 rfl (by with_unfolding_all rfl) sF sN onesAre1 ?_)
      | (refine sumOnes [1, 1] 2 rfl (by with_unfolding_all rfl) sF sN onesAre2 ?_)
      | (refine sumOnes [1, 1, 1] 3 rfl (by with_unfolding_all rfl) sF sN onesAre3 ?_)
      | (refine sumOnes [1, 1, 1, 1] 4 rfl (by with_unfolding_all rfl) sF sN onesAre4 ?_)); intro h' tk' t' F' N'; (try k_sweep)
  trivial
local macro_rules | `(tactic| walk_at "call builtin:sum") => `(tactic| k_extra "way7")
theorem setW8 : True := by
  k_with "way8" =>
    (k_here; first | refine mul_int ?_ (hm := by assumption) | refine mul_int ?_ (hm := PySem.IntMulOk.of_right (by decide +kernel)))
  trivial
local macro_rules | `(tactic| walk_at "binaryOp Mult int int") => `(tactic| k_extra "way8")
/-- the odd number, its sign, the power of two, the bits that a cell says -/
noncomputable def od (c : Int) : Int := 2 * (c.fdiv 2).fmod 16 + 1
noncomputable def nO (c : Int) : Int := if c.fmod 2 = 1 then -(od c) else od c
noncomputable def nT (c : Int) : Int := (c.fdiv 32).fmod 41 - 20
noncomputable def tp (c : Int) : Int := if 16 ≤ od c then 4 else if 8 ≤ od c then 3 else if 4 ≤ od c then 2 else if 2 ≤ od c then 1 else 0
noncomputable def nB (c : Int) : Int := c.fmod 2 * 2 ^ Int.toNat 63 + (1023 + nT c + tp c) * 2 ^ Int.toNat 52 + (od c - 2 ^ (tp c).toNat) * 2 ^ (52 - tp c).toNat
noncomputable def tpo (o : Int) : Int := if 16 ≤ o then 4 else if 8 ≤ o then 3 else if 4 ≤ o then 2 else if 2 ≤ o then 1 else 0
theorem tpo0 {o : Int} (h : ¬ 2 ≤ o) : 0 = tpo o := ((if_neg (fun x => h (Int.le_trans (by decide) x))).trans ((if_neg (fun x => h (Int.le_trans (by decide) x))).trans ((if_neg (fun x => h (Int.le_trans (by decide) x))).trans (if_neg h)))).symm
theorem tpo1 {o : Int} (h : 2 ≤ o) (h' : ¬ 4 ≤ o) : 1 = tpo o := ((if_neg (fun x => h' (Int.le_trans (by decide) x))).trans ((if_neg (fun x => h' (Int.le_trans (by decide) x))).trans ((if_neg h').trans (if_pos h)))).symm
theorem tpo2 {o : Int} (h : 4 ≤ o) (h' : ¬ 8 ≤ o) : 2 = tpo o := ((if_neg (fun x => h' (Int.le_trans (by decide) x))).trans ((if_neg h').trans (if_pos h))).symm
theorem tpo3 {o : Int} (h : 8 ≤ o) (h' : ¬ 16 ≤ o) : 3 = tpo o := ((if_neg h').trans (if_pos h)).symm
theorem tpo4 {o : Int} (h : 16 ≤ o) : 4 = tpo o := (if_pos h).symm
theorem tpo_range (o : Int) : 0 ≤ tpo o ∧ tpo o ≤ 4 := by unfold tpo; (repeat' split) <;> decide
theorem tpo_facts : ∀ n : Nat, n < 32 → 1 ≤ n → (2 : Int) ^ (tpo n).toNat ≤ n ∧ (n : Int) < 2 * 2 ^ (tpo n).toNat := by decide
theorem mul3 {o T r : Int} (h0 : 1 ≤ o) (h1 : o ≤ 31) (t0 : 0 ≤ T) (t1 : T ≤ 4) : PySem.IntMulOk (o - 2 ^ T.toNat) r := by
  refine PySem.IntMulOk.of_left (intBits_le_iff.mpr ?_)
  have h : (2 : Int) ^ T.toNat ≤ 2 ^ 4 := by exact_mod_cast Nat.pow_le_pow_right (by decide) (by omega : T.toNat ≤ 4)
  have h' : (0 : Int) < 2 ^ T.toNat := Int.pow_pos (by decide)
  omega
theorem c_law_number (w : World) (c : Int) (t : Tok) (h0 : 0 ≤ c) (hc : Builtin.Int.intBits c ≤ 1048576) : Ct w 1 215 [.int c t] (RT3 (nO c) (nT c) (nB c)) := by
  intro mean mg mb dp un gd cn cs a ccd cl outer A₀ base h₀ L m news s Q E B F X N T hk hdp hun hret
  refine wpAny_call ?_
  k_dflt (refine' code_defC ?k1 ?k2 ?k3 ?k4 ?k5 ?kA ?kF ?kK ?k6 ?k7 ?k8 ?k9 ?kB ?kD ?_ ?c2 ?c3 ?c4; (case kA => exact rfl); (case kF => exact rfl); (case kK => assumption); (case k1 => k_asm); (case k2 => k_asm); (case k3 => k_asm); (case k4 => k_asm); (case k5 => k_asm); (case k6 => k_is); (case k7 => k_is); (case k8 => ktr_room); (case k9 => exact BindsTo.of_eq rfl); (case kB => exact rfl); (case kD => decide +kernel); (case c2 => exact rfl); (case c3 => exact rfl); (case c4 => exact rfl); k_whole; intro g' L' h' tk' cells' FG' F' N' Y' B' X' T' l1; (try k_lt l1); k_cells Y'; (try simp only [List.cons_append, List.nil_append] at N'); (try dsimp only); (try k_lift B'); (try k_fold))
  repeat' (first | (k_unfold; (try dsimp only)) | (k_end; wrow_close) | ((fail_if_success (with_reducible show wpAny _ _ (exec (Stmt.Assign [Expr.Name _ _] _ _) _) _ _ _)); first | (dsimp only; walk1) | walk1) | fail "no step")
  (rename Fr _ _ _ _ => jF); (rename News _ _ _ _ => jN)
  generalize ho : 2 * (c.fdiv 2).fmod 16 + 1 = o at *
  have hor : 1 ≤ o ∧ o ≤ 31 := by rw [← ho, show (c.fdiv 2).fmod 16 = c.fdiv 2 % 16 from Int.fmod_eq_emod_of_nonneg _ (by decide)]; omega

  (try dsimp only)
  refine' joinS (J1 (Str.ofString "top") (tpo o) ?ju) jF jN ?ja ?jb
  rotate_left
  · intro Q9 hQ
    repeat' (first | (k_unfold; (try dsimp only)) | ((with_reducible show wpAny _ _ (eval (Expr.Call _ [Expr.ListComp _ _ _ _] _ _) _) _ _ _); (try dsimp only); refine letQ ?_; intro Q7; walk1) | ((with_reducible show wpAny _ _ (PySem.isTrue (Expr.Compare _ [_] [_] _) _ _) _ _ _); (try dsimp only); refine letQ ?_; intro Q8; walk1) | (dsimp only; walk1) | walk1 | fail "no step")
    all_goals (refine joinEnd hQ (by assumption) (by assumption) (by first | exact fun p h => h | (intro p h; simp only [List.mem_cons, h, or_true])) (J1.once ?_))
    all_goals (first | exact tpo4 (by assumption) | exact tpo3 (by assumption) (by assumption) | exact tpo2 (by assumption) (by assumption) | exact tpo1 (by assumption) (by assumption) | exact tpo0 (by assumption))
  have hT : tp c = tpo o := congrArg tpo ho
  have hO : od c = o := ho
  have hTr := tpo_range o
  generalize tpo o = T at hT hTr ⊢
  have hm3 := mul3 (r := 2 ^ (52 - T).toNat) hor.1 hor.2 hTr.1 hTr.2
  rintro v h' tk' m' F' N' ⟨rfl, t3, rfl⟩
  (try dsimp only); (try k_sweep); (try k_fold)
  repeat' (first | (k_unfold; (try dsimp only)) | (k_end; wrow_close) | ((with_reducible show wpAny _ _ (exec _ _) _ _ _); (try dsimp only); refine letQ ?_; intro Q8; walk1) | ((with_reducible show wpAny _ _ (eval (Expr.BinOp _ _ _ _) _) _ _ _); k_dflt (refine Ev.bin2 (by k_asm) (by k_extra "ev") (by k_extra "ev") ?_); k_whole) | ((with_reducible show wpAny _ _ (PySem.isTrue (Expr.Compare _ [_] [_] _) _ _) _ _ _); k_dflt (refine Ev.cmp2 (by k_asm) (by k_extra "ev") (by k_extra "ev") ?_ rfl); k_whole) | ((with_reducible show wpAny _ _ (eval (Expr.Call (Expr.Name _ _) (_ :: _) [] _) _) _ _ _); k_dflt (refine Evs.call (by k_asm) (by k_asm) (by k_asm) (by k_is) (by k_is) (by k_extra "evs") ?_ rfl rfl rfl rfl rfl); k_whole) | ((with_reducible show wpAny _ _ (storeName _ _ _) _ _ _); walk1; (rename Fr _ _ _ _ => lF); refine letM lF ?_; clear lF; intro m9 lF) | ((with_reducible show wpAny _ _ (binaryOp Operator.LShift (Value.int _ _) (Value.int _ _)) _ _ _); refine lshift_int (by first | with_reducible assumption | omega) (by first | with_reducible assumption | omega) ?_) | ((with_reducible show KswEnd _ _ _ _ _ _ _ _ _ _ _ _); (rename Fr _ _ _ _ => lF); (try dsimp +zetaDelta only at lF); (try dsimp +zetaDelta only); walk1) | (dsimp only; walk1) | walk1 | (leave1; try dsimp only) | fail "no step")
  all_goals (refine retT3 hret (by assumption) (by assumption) (by exact List.Mem.head _) (by intro p h; simp only [List.mem_cons, h, or_true]) (by first | exact allLt_of (by assumption) | exact And.right (by assumption) | exact And.right (And.right (by assumption))) ?_ rfl (by unfold nB; rw [hT, hO]; rfl))
  all_goals (unfold nO; rw [hO]; first | exact (if_pos (by assumption)).symm | exact (if_neg (by assumption)).symm)

end
section
theorem setW9 : True := by
  k_with "way9" =>
    (k_here; refine mul_int ?_ (hm := by assumption))
  trivial
local macro_rules | `(tactic| walk_at "binaryOp Mult int int") => `(tactic| k_extra "way9")

noncomputable abbrev CtM (w : World) (d : Nat) (f : Addr) (nm : Addr) (ob : Obj) (vs : List Value) (Ret : Heap → Addr → (Str → Option Value) → List (Addr × Obj) → Shared → (Value → Shared → Prop) → Prop) : Prop :=
  ∀ (mean : ExcName → Option Value) (mg mb : Str → Option Value) (dp un : Nat) (gd : Option (List Code)) (cn : Str) (cs : Scope) (a : Addr) (ccd : Value) (cl : List (Str × Addr)) (outer : List Env) (A₀ : Around) (base h₀ : Heap) (L : Addr) (m : Str → Option Value) (news : List (Addr × Obj)) (s : Shared) (Q E : Value → Shared → Prop),
    Below A₀ base outer h₀ → Fr h₀ L s.heap m → (hd.heap_39 w.params).In h₀ → News h₀ L s.heap news → Top hd.view_39 Lo mean mg mb h₀ → cs.kind = .function →
    dp + d < recursionLimit → un + 8 * d < cLine → (nm, ob) ∈ news → Ret h₀ L m news s Q →
      wpAny (model Prg w) (ktrTop dp un gd cn cs L a ccd cl outer) (call (.ref f) vs) Q E s
noncomputable def ex1 (s m x : Int) : Int := if 0 ≤ x then (if s = 1 then -m else m) * 2 ^ x.toNat else (if s = 1 then -m else m)
noncomputable def ex2 (x : Int) : Int := if 0 ≤ x then 1 else 1 * 2 ^ (-x).toNat
theorem c_exact (w : World) (v s m x : Int) (t : Tok) (hv : Dbl v s m x) : Ct w 2 84 [.int v t] (RT2 (ex1 s m x) (ex2 x)) := by
  have f1 := hv.W
  have f2 : Builtin.Int.intBits (-m) ≤ 53 := intBits_neg_le hv.W
  have f3 := hv.x0
  have f4 := hv.x1
  intro mean mg mb dp un gd cn cs a ccd cl outer A₀ base h₀ L m news s Q E B F X N T hk hdp hun hret
  refine wpAny_call ?_
  k_dflt cell_enter
  refine letA ?_; intro A1
  (rename Fr _ _ _ _ => lF); refine letM lF ?_; clear lF; intro m9 lF
  k_with "call ref" => (refine Ct.use (c_parts w _ _ _ _ _ hv) (by k_asm) (by k_asm) (by k_asm) (by k_asm) (by k_asm) (by first | exact rfl | assumption) (by first | exact room1 hdp (by decide) | ktr_room) (by first | exact units1 hun (by decide) | ktr_units) ?_; intro D9 tok1 tok2 tok3 c9 h9 tk9 F9 N9 l9; (try simp only [AllLt, and_true] at l9); (try dsimp only); (try k_sweep); (try k_fold))
  repeat' (first | (k_unfold; (try dsimp only)) | (k_end; wrow_close) | ((with_reducible show wpAny _ _ (exec _ _) _ _ _); (try dsimp only); refine letQ ?_; intro Q8; walk1) | ((with_reducible show wpAny _ _ (eval (Expr.BinOp _ _ _ _) _) _ _ _); k_dflt (refine Ev.bin2 (by k_asm) (by k_extra "ev") (by k_extra "ev") ?_); k_whole) | ((with_reducible show wpAny _ _ (PySem.isTrue (Expr.Compare _ [_] [_] _) _ _) _ _ _); k_dflt (refine Ev.cmp2 (by k_asm) (by k_extra "ev") (by k_extra "ev") ?_ rfl); k_whole) | ((with_reducible show wpAny _ _ (eval (Expr.Call (Expr.Name _ _) (_ :: _) [] _) _) _ _ _); k_dflt (refine Evs.call (by k_asm) (by k_asm) (by k_asm) (by k_is) (by k_is) (by k_extra "evs") ?_ rfl rfl rfl rfl rfl); k_whole) | ((with_reducible show wpAny _ _ (storeName _ _ _) _ _ _); walk1; (rename Fr _ _ _ _ => lF); refine letM lF ?_; clear lF; intro m9 lF) | ((with_reducible show wpAny _ _ (binaryOp Operator.LShift (Value.int _ _) (Value.int _ _)) _ _ _); refine lshift_int (by first | with_reducible assumption | omega) (by first | with_reducible assumption | omega) ?_) | ((with_reducible show KswEnd _ _ _ _ _ _ _ _ _ _ _ _); (rename Fr _ _ _ _ => lF); (try dsimp +zetaDelta only at lF); (try dsimp +zetaDelta only); walk1) | (dsimp only; walk1) | walk1 | (leave1; try dsimp only) | fail "no step")
  all_goals (exact retT2 hret (by assumption) (by assumption) (by exact List.Mem.head _) (by intro p h; simp only [List.mem_cons, h, or_true]) (by first | exact allLt_of (by assumption) | exact And.right (by assumption)) (by unfold ex1; (repeat' split) <;> first | rfl | contradiction) (by unfold ex2; (repeat' split) <;> first | rfl | contradiction))
noncomputable def fits (o t k : Int) : Bool := decide ((if o < 0 then -o else o) ^ k.toNat < 2 ^ Int.toNat 53) && decide ((if t * k < 0 then -(t * k) else t * k) ≤ 900)
theorem c_law_fits (w : World) (nm : Addr) (o t b k : Int) (u1 u2 u3 u : Tok) (c : Nat) (ho0 : -100 ≤ o) (ho1 : o ≤ 100) (ht0 : -100 ≤ t) (ht1 : t ≤ 100) (hk0 : 0 ≤ k) (hk1 : k ≤ 5000) :
    CtM w 1 222 nm (tup [.int o u1, .int t u2, .int b u3] c) [.ref nm, .int k u] (RB (fits o t k)) := by
  intro mean mg mb dp un gd cn cs a ccd cl outer A₀ base h₀ L m news s Q E B F X N T hk hdp hun hmem hret
  refine wpAny_call ?_
  k_dflt cell_enter
  refine letA ?_; intro A1
  (rename Fr _ _ _ _ => lF); refine letM lF ?_; clear lF; intro m9 lF
  repeat' (first | (k_unfold; (try dsimp only)) | (k_end; wrow_close) | ((with_reducible show wpAny _ _ (exec _ _) _ _ _); (try dsimp only); refine letQ ?_; intro Q8; walk1) | ((with_reducible show wpAny _ _ (eval (Expr.BinOp _ _ _ _) _) _ _ _); k_dflt (refine Ev.bin2 (by k_asm) (by k_extra "ev") (by k_extra "ev") ?_); k_whole) | ((with_reducible show wpAny _ _ (PySem.isTrue (Expr.Compare _ [_] [_] _) _ _) _ _ _); k_dflt (refine Ev.cmp2 (by k_asm) (by k_extra "ev") (by k_extra "ev") ?_ rfl); k_whole) | ((with_reducible show wpAny _ _ (eval (Expr.Call (Expr.Name _ _) (_ :: _) [] _) _) _ _ _); k_dflt (refine Evs.call (by k_asm) (by k_asm) (by k_asm) (by k_is) (by k_is) (by k_extra "evs") ?_ rfl rfl rfl rfl rfl); k_whole) | ((with_reducible show wpAny _ _ (storeName _ _ _) _ _ _); walk1; (rename Fr _ _ _ _ => lF); refine letM lF ?_; clear lF; intro m9 lF) | ((with_reducible show wpAny _ _ (binaryOp Operator.LShift (Value.int _ _) (Value.int _ _)) _ _ _); refine lshift_int (by first | with_reducible assumption | omega) (by first | with_reducible assumption | omega) ?_) | ((with_reducible show KswEnd _ _ _ _ _ _ _ _ _ _ _ _); (rename Fr _ _ _ _ => lF); (try dsimp +zetaDelta only at lF); (try dsimp +zetaDelta only); walk1) | (dsimp only; walk1) | walk1 | (leave1; try dsimp only) | fail "no step")
  all_goals (refine retB hret (by assumption) (by assumption) (by intro p h; simp only [List.mem_cons, h, or_true]) ?_)
  · have e : decide ((if o < 0 then -o else o) ^ k.toNat < 2 ^ Int.toNat 53) = true := decide_eq_true (by assumption)
    unfold fits; rw [e]; rfl
  · have e : decide ((if o < 0 then -o else o) ^ k.toNat < 2 ^ Int.toNat 53) = false := decide_eq_false (by assumption)
    unfold fits; rw [e]; rfl
theorem setW10 : True := by
  k_with "way10" =>
    (k_here; (with_reducible show wpAny _ _ (subscriptTail _ _ (Value.ref _) (Value.int _ _)) _ _ _); rename News _ _ _ _ => kN; rename _ ∈ _ => kM; k_dflt (first | refine item_tupleT (News.isTup kN (List.mem_cons_of_mem _ kM)) (by decide) (by decide) rfl rfl ?_ | refine item_tupleT (News.isTup kN (List.mem_cons_of_mem _ (List.mem_cons_of_mem _ kM))) (by decide) (by decide) rfl rfl ?_ | refine item_tupleT (News.isTup kN (List.mem_cons_of_mem _ (List.mem_cons_of_mem _ (List.mem_cons_of_mem _ kM)))) (by decide) (by decide) rfl rfl ?_); k_whole)
  trivial
local macro_rules | `(tactic| walk_at "subscriptTail") => `(tactic| k_extra "way10")
theorem c_law_is_power (w : World) (nm : Addr) (v s m x o t b k : Int) (u1 u2 u3 u u0 : Tok) (c : Nat) (hv : Dbl v s m x) (ho0 : -100 ≤ o) (ho1 : o ≤ 100) (ht0 : -100 ≤ t) (ht1 : t ≤ 100) (hk0 : 0 ≤ k) (hk1 : k ≤ 5000)
    (hW : Builtin.Int.intBits (o ^ k.toNat) ≤ 60) (hs0 : -1000 ≤ t * k) (hs1 : t * k ≤ 1000)
    (hp : 0 ≤ t * k → ex1 s m x = o ^ k.toNat * 2 ^ (t * k).toNat * ex2 x) (hn : ¬ 0 ≤ t * k → ex1 s m x * 2 ^ (-(t * k)).toNat = o ^ k.toNat * ex2 x) :
    CtM w 3 229 nm (tup [.int o u1, .int t u2, .int b u3] c) [.int v u0, .ref nm, .int k u] (RB true) := by
  have f1 : Builtin.Int.intBits o ≤ 64 := intBits_le_iff.mpr (by omega)
  have f2 : Builtin.Int.intBits t ≤ 64 := intBits_le_iff.mpr (by omega)
  have f3 : ∀ n : Int, Builtin.Int.intBits (2 ^ n.toNat) ≤ n.toNat + 1 := fun n => intBits_le_iff.mpr (by rw [Int.natAbs_pow]; exact Nat.pow_lt_pow_right (by decide) (Nat.lt_succ_self _))
  have f4 : PySem.IntMulOk (o ^ k.toNat) (2 ^ (t * k).toNat) := PySem.IntMulOk.of_left (by omega)
  have f5 : PySem.IntMulOk (o ^ k.toNat * 2 ^ (t * k).toNat) (ex2 x) := by
    refine PySem.IntMulOk.of_le (m := 60 + 1001) (n := 2000) (intBits_mul_le hW (Nat.le_trans (f3 _) (by omega))) ?_ (by decide)
    have h := hv.x0
    unfold ex2
    split
    · decide
    · rw [Int.one_mul]; exact Nat.le_trans (f3 _) (by omega)
  have f6 : PySem.IntMulOk (o ^ k.toNat) (ex2 x) := PySem.IntMulOk.of_left (by omega)
  have f7 : PySem.IntMulOk (ex1 s m x) (2 ^ (-(t * k)).toNat) := by
    have h := hv.x1
    have e1 := hv.W
    have e2 : Builtin.Int.intBits (-m) ≤ 53 := intBits_neg_le hv.W
    have e3 : Builtin.Int.intBits (if s = 1 then -m else m) ≤ 53 := by split <;> assumption
    refine PySem.IntMulOk.of_le (m := 53 + 1000) (n := 1001) ?_ (Nat.le_trans (f3 _) (by omega)) (by decide)
    unfold ex1
    split
    · exact intBits_mul_le e3 (Nat.le_trans (f3 _) (by omega))
    · exact Nat.le_trans e3 (by decide)
  have f8 : PySem.IntMulOk t k := PySem.IntMulOk.of_left f2
  intro mean mg mb dp un gd cn cs a ccd cl outer A₀ base h₀ L m news s Q E B F X N T hk hdp hun hmem hret
  refine wpAny_call ?_
  k_dflt cell_enter
  refine letA ?_; intro A1
  (rename Fr _ _ _ _ => lF); refine letM lF ?_; clear lF; intro m9 lF
  k_with "call ref" => (refine Ct.use (c_exact w _ _ _ _ _ hv) (by k_asm) (by k_asm) (by k_asm) (by k_asm) (by k_asm) (by first | exact rfl | assumption) (by first | exact room1 hdp (by decide) | ktr_room) (by first | exact units1 hun (by decide) | ktr_units) ?_; intro D9 tok1 tok2 c9 h9 tk9 F9 N9 l9; (try simp only [AllLt, and_true] at l9); (try dsimp only); (try k_sweep); (try k_fold))
  repeat' (first | (k_unfold; (try dsimp only)) | (k_end; wrow_close) | ((with_reducible show wpAny _ _ (exec _ _) _ _ _); (try dsimp only); refine letQ ?_; intro Q8; walk1) | ((with_reducible show wpAny _ _ (eval (Expr.BinOp _ _ _ _) _) _ _ _); k_dflt (refine Ev.bin2 (by k_asm) (by k_extra "ev") (by k_extra "ev") ?_); k_whole) | ((with_reducible show wpAny _ _ (PySem.isTrue (Expr.Compare _ [_] [_] _) _ _) _ _ _); k_dflt (refine Ev.cmp2 (by k_asm) (by k_extra "ev") (by k_extra "ev") ?_ rfl); k_whole) | ((with_reducible show wpAny _ _ (eval (Expr.Call (Expr.Name _ _) (_ :: _) [] _) _) _ _ _); k_dflt (refine Evs.call (by k_asm) (by k_asm) (by k_asm) (by k_is) (by k_is) (by k_extra "evs") ?_ rfl rfl rfl rfl rfl); k_whole) | ((with_reducible show wpAny _ _ (storeName _ _ _) _ _ _); walk1; (rename Fr _ _ _ _ => lF); refine letM lF ?_; clear lF; intro m9 lF) | ((with_reducible show wpAny _ _ (binaryOp Operator.LShift (Value.int _ _) (Value.int _ _)) _ _ _); refine lshift_int (by first | with_reducible assumption | omega) (by first | with_reducible assumption | omega) ?_) | ((with_reducible show KswEnd _ _ _ _ _ _ _ _ _ _ _ _); (rename Fr _ _ _ _ => lF); (try dsimp +zetaDelta only at lF); (try dsimp +zetaDelta only); walk1) | (dsimp only; walk1) | walk1 | (leave1; try dsimp only) | fail "no step")
  all_goals (refine retB hret (by assumption) (by assumption) (by intro p h; simp only [List.mem_cons, h, or_true]) ?_)
  · exact beq_iff_eq.mpr (hp (by assumption))
  · exact beq_iff_eq.mpr (hn (by assumption))

end
section
theorem and_zero (k : Nat) : ∀ (a b : Int), 0 ≤ b → b < 2 ^ k → Builtin.bitAnd (a * 2 ^ k) b = 0 := by
  induction k with
  | zero =>
    intro a b h0 h1
    have : b = 0 := by simp at h1; omega
    subst this
    have h := kbt_mask (a * 2 ^ 0) 0
    simpa using h
  | succ k ih =>
    intro a b h0 h1
    rw [kbt_halves]
    have e1 : a * 2 ^ (k + 1) / 2 = a * 2 ^ k := by
      rw [Int.pow_succ, ← Int.mul_assoc]
      exact Int.mul_ediv_cancel _ (by decide)
    have e2 : (a * 2 ^ (k + 1)) % 2 = 0 := by
      rw [Int.pow_succ, ← Int.mul_assoc]
      exact Int.mul_emod_left _ _
    rw [e1, e2]
    have h2 : b / 2 < 2 ^ k := by
      rw [Int.pow_succ] at h1
      omega
    rw [ih a (b / 2) (by omega) h2]
    simp
theorem or_add (a b : Int) (k : Nat) (h0 : 0 ≤ b) (h1 : b < 2 ^ k) : Builtin.bitOr (a * 2 ^ k) b = a * 2 ^ k + b := by
  rw [bitOr_and, and_zero k a b h0 h1]; omega
theorem asm_norm {s m p : Int} (hs0 : 0 ≤ s) (hs1 : s ≤ 1) (h0 : 4503599627370496 ≤ m) (h1 : m < 9007199254740992) (p0 : -1074 ≤ p) (p1 : p ≤ 971) :
    asm s m p = s * 9223372036854775808 + (p + 1075) * 4503599627370496 + (m - 4503599627370496) := by
  unfold asm asm'
  rw [if_neg (by omega), if_neg (by omega), if_neg (by omega)]
  unfold pk
  have e1 := or_add s ((p + 1075) * 4503599627370496) 63 (by omega) (by omega)
  have e2 := or_add (s * 2048 + (p + 1075)) (m - 4503599627370496) 52 (by omega) (by omega)
  have e1' : Builtin.bitOr (s * 9223372036854775808) ((p + 1075) * 4503599627370496) = s * 9223372036854775808 + (p + 1075) * 4503599627370496 := e1
  rw [e1']
  have e3 : s * 9223372036854775808 + (p + 1075) * 4503599627370496 = (s * 2048 + (p + 1075)) * 2 ^ 52 := by omega
  rw [e3, e2]
theorem asm_Dbl {s m p : Int} (hs0 : 0 ≤ s) (hs1 : s ≤ 1) (h0 : 4503599627370496 ≤ m) (h1 : m < 9007199254740992) (p0 : -1074 ≤ p) (p1 : p ≤ 971) : Dbl (asm s m p) s m p :=
  ⟨hs0, hs1, h0, h1, p0, p1, asm_norm hs0 hs1 h0 h1 p0 p1⟩
theorem qTB (T : Int) (a b d : Nat) (p : Int) (h : (a : Int) - b - p = d) : ∃ e : Nat, qT (T * 2 ^ a) p = T * 2 ^ d * 2 ^ e ∧ qB (1 * 2 ^ b) p = 2 ^ e := by
  unfold qT qB
  by_cases hp : 0 ≤ p
  · obtain ⟨n, rfl⟩ := Int.eq_ofNat_of_zero_le hp
    refine ⟨b + n, ?_, ?_⟩
    · rw [if_pos hp, Int.mul_assoc, ← Int.pow_add, show a = d + (b + n) by omega]
    · rw [if_pos hp, Int.one_mul, Int.toNat_natCast, ← Int.pow_add]
  · obtain ⟨n, hn⟩ := Int.eq_ofNat_of_zero_le (a := -p) (Int.neg_nonneg_of_nonpos (Int.le_of_lt (Int.not_le.mp hp)))
    refine ⟨b, ?_, ?_⟩
    · rw [if_neg hp, hn, Int.toNat_natCast, Int.mul_assoc, Int.mul_assoc, ← Int.pow_add, ← Int.pow_add, show a + n = d + b by omega]
    · rw [if_neg hp, Int.one_mul]
theorem W_ge {x : Int} (h : 1 ≤ x) : 1 ≤ W x ∧ (2 : Int) ^ (W x - 1) ≤ x ∧ x < 2 ^ W x := by
  have h1 : 1 ≤ W x := W_gt (k := 0) (by simpa using h)
  have h2 := W_le.mp (Nat.le_refl (W x))
  have h3 : (x.natAbs : Int) < 2 ^ W x := by exact_mod_cast h2
  refine ⟨h1, ?_, by omega⟩
  rcases Int.lt_or_le x (2 ^ (W x - 1)) with h4 | h4
  · have h5 : x.natAbs < 2 ^ (W x - 1) := by
      have : (x.natAbs : Int) < ((2 ^ (W x - 1) : Nat) : Int) := by rw [kbt_cast]; omega
      exact_mod_cast this
    have := W_le.mpr h5
    omega
  · exact h4
/-- the mantissa of T: T moved up to 53 bits -/
theorem mant {T : Int} {j : Nat} (h : 1 ≤ T) (hj : W T + j = 53) : 4503599627370496 ≤ T * 2 ^ j ∧ T * 2 ^ j < 9007199254740992 ∧ 9007199254740992 ≤ T * 2 ^ (j + 1) := by
  obtain ⟨h1, h2, h3⟩ := W_ge h
  have p0 := kbt_pos j
  have a1 : (2 : Int) ^ (W T - 1) * 2 ^ j ≤ T * 2 ^ j := Int.mul_le_mul_of_nonneg_right h2 (Int.le_of_lt p0)
  have a2 : T * 2 ^ j < 2 ^ W T * 2 ^ j := Int.mul_lt_mul_of_pos_right h3 p0
  rw [← Int.pow_add] at a1 a2
  rw [show W T - 1 + j = 52 by omega] at a1
  rw [hj] at a2
  rw [Int.pow_succ, ← Int.mul_assoc]
  have c1 : (2 : Int) ^ 52 = 4503599627370496 := by decide
  have c2 : (2 : Int) ^ 53 = 9007199254740992 := by decide
  rw [c1] at a1
  rw [c2] at a2
  exact ⟨a1, a2, Int.mul_le_mul_of_nonneg_right a1 (by decide)⟩
theorem rr_exact {s T : Int} {a b j : Nat} (h : 1 ≤ T) (hj : W T + j = 53) (hP0 : -1000 ≤ (a : Int) - b) :
    rr s (T * 2 ^ a) (1 * 2 ^ b) = asm s (T * 2 ^ j) ((a : Int) - b - j) := by
  have hw1 : W (T * 2 ^ a) = W T + a := W_mul (fun e => by rw [e] at h; exact absurd h (by decide)) a
  have hw2 : W (1 * 2 ^ b) = 1 + b := W_mul (by decide) b
  obtain ⟨m0, m1, m2⟩ := mant h hj
  have ew : (W T : Int) = 53 - j := by omega
  have ep0 : rp0 (T * 2 ^ a) (1 * 2 ^ b) = (a : Int) - b - j - 1 := by
    unfold rp0
    rw [show Builtin.Int.intBits (T * 2 ^ a) = W T + a from hw1, show Builtin.Int.intBits (1 * 2 ^ b) = 1 + b from hw2, Int.natCast_add, Int.natCast_add, ew]
    have e : (53 : Int) - j + a - ((1 : Nat) + b) - 53 = (a : Int) - b - j - 1 := by omega
    rw [e]
    have hj' : (j : Int) ≤ 53 := by omega
    exact if_neg (by omega)
  obtain ⟨e, t1, t2⟩ := qTB T a b (j + 1) ((a : Int) - b - j - 1) (by omega)
  have ep : rp (T * 2 ^ a) (1 * 2 ^ b) = (a : Int) - b - j := by
    unfold rp
    rw [ep0, t1, t2, kbt_q1, two1, if_pos (show (4503599627370496 : Int) * 2 ≤ T * 2 ^ (j + 1) from m2)]
    exact Int.sub_add_cancel _ _
  obtain ⟨e', u1, u2⟩ := qTB T a b j ((a : Int) - b - j) (by omega)
  unfold rr
  rw [ep]
  unfold up
  rw [u1, u2, kbt_q1, kbt_r1]
  have := kbt_pos e'
  rw [if_neg (by omega), if_neg (by omega)]
theorem fdiv_scale {x y : Int} (k : Nat) (hy : 0 < y) : (x * 2 ^ k).fdiv (y * 2 ^ k) = x.fdiv y ∧ (x * 2 ^ k).fmod (y * 2 ^ k) = x.fmod y * 2 ^ k := by
  have hk := kbt_pos k
  have hyk := shl_pos k hy
  rw [Int.fdiv_eq_ediv_of_nonneg _ (Int.le_of_lt hyk), Int.fmod_eq_emod_of_nonneg _ (Int.le_of_lt hyk), Int.fdiv_eq_ediv_of_nonneg _ (Int.le_of_lt hy), Int.fmod_eq_emod_of_nonneg _ (Int.le_of_lt hy)]
  refine kbt_unique hyk ?_ (Int.mul_nonneg (Int.emod_nonneg _ (by omega)) (by omega)) ?_
  · rw [Int.mul_right_comm y (2 ^ k) (x / y), ← Int.add_mul, Int.emod_add_mul_ediv]
  · exact Int.mul_lt_mul_of_pos_right (Int.emod_lt_of_pos _ hy) hk
theorem qT_scale (top p : Int) (k : Nat) : qT (top * 2 ^ k) p = qT top p * 2 ^ k := by
  unfold qT; split
  · rfl
  · exact Int.mul_right_comm _ _ _
theorem qB_scale (bot p : Int) (k : Nat) : qB (bot * 2 ^ k) p = qB bot p * 2 ^ k := by
  unfold qB; split
  · exact Int.mul_right_comm _ _ _
  · rfl
theorem qB_pos {bot : Int} (p : Int) (h : 0 < bot) : 0 < qB bot p := by
  unfold qB; split
  · exact shl_pos _ h
  · exact h
theorem mul_lt_iff {a b c : Int} (hc : 0 < c) : a * c < b * c ↔ a < b := ⟨fun h => Int.lt_of_mul_lt_mul_right h (Int.le_of_lt hc), fun h => Int.mul_lt_mul_of_pos_right h hc⟩
theorem mul_eq_iff {a b c : Int} (hc : 0 < c) : a * c = b * c ↔ a = b := ⟨fun h => Int.eq_of_mul_eq_mul_right (by omega) h, fun h => by rw [h]⟩
theorem rr_scale {s top bot : Int} (k : Nat) (ht : 0 < top) (hb : 0 < bot) : rr s (top * 2 ^ k) (bot * 2 ^ k) = rr s top bot := by
  have e0 : rp0 (top * 2 ^ k) (bot * 2 ^ k) = rp0 top bot := by
    have h1 : Builtin.Int.intBits (top * 2 ^ k) = W top + k := W_mul (by omega) k
    have h2 : Builtin.Int.intBits (bot * 2 ^ k) = W bot + k := W_mul (by omega) k
    unfold rp0
    rw [h1, h2]
    have e : ((W top + k : Nat) : Int) - (W bot + k : Nat) - 53 = (W top : Int) - W bot - 53 := by omega
    rw [e]
  have e1 : rp (top * 2 ^ k) (bot * 2 ^ k) = rp top bot := by
    unfold rp
    rw [e0, qT_scale, qB_scale, (fdiv_scale k (qB_pos _ hb)).1]
  have e2 : ∀ p, up (top * 2 ^ k) (bot * 2 ^ k) p = up top bot p := by
    intro p
    unfold up
    have hp := qB_pos p hb
    rw [qT_scale, qB_scale, (fdiv_scale k hp).1, (fdiv_scale k hp).2, ← Int.mul_assoc]
    simp only [mul_lt_iff (kbt_pos k), mul_eq_iff (kbt_pos k)]
  unfold rr
  rw [e1, e2]

end
section
noncomputable def sgn (o : Int) : Int := if o < 0 then 1 else 0
/-- the bits of o * 2 ** t -/
noncomputable def enc (o t : Int) : Int := rs (sgn o) (ab o) t
/-- the bits of its reciprocal -/
noncomputable def recip (o t : Int) : Int := if 0 ≤ t then rr (sgn o) 1 (ab o * 2 ^ t.toNat) else rr (sgn o) (1 * 2 ^ (-t).toNat) (ab o)
/-- the bits of the double of an int -/
noncomputable def fi (n : Int) : Int := if n = 0 then 0 else rr (if n < 0 then 1 else 0) (ab n) 1
theorem sgn01 (o : Int) : 0 ≤ sgn o ∧ sgn o ≤ 1 := by unfold sgn; split <;> omega
theorem ab_pos {o : Int} (h : o ≠ 0) : 1 ≤ ab o := by unfold ab; split <;> omega
theorem ab_nat (o : Int) : ab o = (o.natAbs : Int) := by unfold ab; split <;> omega
/-- few bits, and a range in which all is exact -/
structure Okay (o t : Int) : Prop where
  odd : o % 2 = 1
  w : W (ab o) ≤ 53
  t0 : -940 ≤ t
  t1 : t ≤ 910
theorem Okay.ne {o t : Int} (h : Okay o t) : o ≠ 0 := by have := h.odd; omega
theorem Okay.pos {o t : Int} (h : Okay o t) : 1 ≤ ab o := ab_pos h.ne
theorem rs_exact {s T P : Int} {j : Nat} (h : 1 ≤ T) (hj : W T + j = 53) (hP0 : -1000 ≤ P) : rs s T P = asm s (T * 2 ^ j) (P - j) := by
  unfold rs
  by_cases hp : 0 ≤ P
  · rw [if_pos hp]
    obtain ⟨n, rfl⟩ := Int.eq_ofNat_of_zero_le hp
    have e := rr_exact (s := s) (a := n) (b := 0) h hj (by omega)
    rw [Int.pow_zero, Int.mul_one] at e
    rw [Int.toNat_natCast, e, Int.natCast_zero, Int.sub_zero]
  · rw [if_neg hp]
    obtain ⟨n, hn⟩ := Int.eq_ofNat_of_zero_le (a := -P) (by omega)
    have e := rr_exact (s := s) (a := 0) (b := n) h hj (by omega)
    rw [Int.pow_zero, Int.mul_one] at e
    rw [hn, Int.toNat_natCast, e, ← hn, Int.natCast_zero, Int.zero_sub, Int.neg_neg]
theorem rs_Dbl {s T P : Int} {j : Nat} (hs0 : 0 ≤ s) (hs1 : s ≤ 1) (h : 1 ≤ T) (hj : W T + j = 53) (hP0 : -1000 ≤ P) (hP1 : P ≤ 960) : Dbl (rs s T P) s (T * 2 ^ j) (P - j) := by
  rw [rs_exact h hj hP0]
  obtain ⟨m0, m1, -⟩ := mant h hj
  exact asm_Dbl hs0 hs1 m0 m1 (by omega) (by omega)
theorem Okay.dbl {o t : Int} (h : Okay o t) : ∃ j, W (ab o) + j = 53 ∧ Dbl (enc o t) (sgn o) (ab o * 2 ^ j) (t - j) :=
  ⟨_, Nat.add_sub_cancel' h.w, rs_Dbl (sgn01 o).1 (sgn01 o).2 h.pos (Nat.add_sub_cancel' h.w) (Int.le_trans (by decide) h.t0) (Int.le_trans h.t1 (by decide))⟩
/-- a double whose mantissa is T moved: its value is enc -/
theorem rs_of {v s T x : Int} {j : Nat} (hd : Dbl v s (T * 2 ^ j) x) (hT : 1 ≤ T) (hx : -900 ≤ x) (hx1 : x ≤ 900) : v = rs s T (x + j) := by
  have hW : W T + j = 53 := by
    have e : W (T * 2 ^ j) = W T + j := W_mul (fun e => by rw [e] at hT; exact absurd hT (by decide)) j
    have h2 : 52 < W (T * 2 ^ j) := W_gt (k := 52) hd.m0
    have h3 : W (T * 2 ^ j) ≤ 53 := hd.W
    rw [e] at h2 h3
    exact Nat.le_antisymm h3 h2
  have h := rs_Dbl (P := x + j) hd.s0 hd.s1 hT hW (by omega) (by omega)
  rw [Int.add_sub_cancel] at h
  rw [hd.v, h.v]
theorem one_enc : enc 1 0 = 4607182418800017408 := by
  obtain ⟨j, hj, h⟩ := (show Okay 1 0 from ⟨by decide, by decide, by decide, by decide⟩).dbl
  rw [show W (ab 1) = 1 by decide] at hj
  have e : j = 52 := by omega
  subst e
  rw [h.v]
  decide
theorem one_recip : recip 1 0 = 4607182418800017408 := one_enc
theorem fi_IntD {n : Int} (h0 : n ≠ 0) (hW : W (ab n) ≤ 40) : ∃ m x, IntD (fi n) n m x := by
  have hp := ab_pos h0
  have e : fi n = rs (if n < 0 then 1 else 0) (ab n) 0 := by
    unfold fi rs
    rw [if_neg h0, if_pos (Int.le_refl _)]
    simp
  have hg := (W_ge hp).1
  obtain ⟨j, hj⟩ : ∃ j, W (ab n) + j = 53 := ⟨_, Nat.add_sub_cancel' (Nat.le_trans hW (by decide))⟩
  have hd := rs_Dbl (s := if n < 0 then 1 else 0) (T := ab n) (P := 0) (by split <;> decide) (by split <;> decide) hp hj (by decide) (by decide)
  rw [← e] at hd
  refine ⟨_, _, hd, h0, by omega, by omega, ?_⟩
  rw [Int.zero_sub, Int.neg_neg, Int.toNat_natCast]
theorem odd_pow {o : Int} (h : o % 2 = 1) : ∀ n : Nat, (o ^ n) % 2 = 1
  | 0 => by rw [Int.pow_zero]; decide
  | n + 1 => by rw [Int.pow_succ, Int.mul_emod, odd_pow h n, h]; decide
theorem ab_mul (a b : Int) : ab (a * b) = ab a * ab b := by rw [ab_nat, ab_nat, ab_nat, Int.natAbs_mul]; simp
theorem ab_pow (o : Int) : ∀ n : Nat, ab (o ^ n) = ab o ^ n
  | 0 => by rw [Int.pow_zero, Int.pow_zero]; decide
  | n + 1 => by rw [Int.pow_succ, ab_mul, ab_pow o n, Int.pow_succ]
theorem ab_odd {o : Int} (h : o % 2 = 1) : ab o % 2 = 1 := by unfold ab; split <;> omega
theorem sgn_mul {a b : Int} (ha : a ≠ 0) (hb : b ≠ 0) : sgn (a * b) = (sgn a + sgn b) % 2 := by
  unfold sgn
  rcases Int.lt_or_gt_of_ne ha with h1 | h1 <;> rcases Int.lt_or_gt_of_ne hb with h2 | h2
  · have := Int.mul_pos_of_neg_of_neg h1 h2
    rw [if_neg (by omega), if_pos h1, if_pos h2]; decide
  · have := Int.mul_neg_of_neg_of_pos h1 h2
    rw [if_pos this, if_pos h1, if_neg (by omega)]; decide
  · have := Int.mul_neg_of_pos_of_neg h1 h2
    rw [if_pos this, if_neg (by omega), if_pos h2]; decide
  · have := Int.mul_pos h1 h2
    rw [if_neg (by omega), if_neg (by omega), if_neg (by omega)]; decide
theorem sgn_pow {o : Int} (ho : o ≠ 0) : ∀ n : Nat, sgn (o ^ n) = if sgn o = 1 ∧ (n : Int) % 2 = 1 then 1 else 0
  | 0 => by rw [if_neg (fun h => absurd h.2 (by decide)), Int.pow_zero]; decide
  | n + 1 => by
    have h := sgn01 o
    rw [Int.pow_succ, sgn_mul (Int.pow_ne_zero ho) ho, sgn_pow ho n]
    by_cases h1 : sgn o = 1
    · by_cases h2 : (n : Int) % 2 = 1
      · rw [if_pos ⟨h1, h2⟩, if_neg (fun q => by have := q.2; omega), h1]; decide
      · rw [if_neg (fun q => h2 q.2), if_pos ⟨h1, by omega⟩, h1]; decide
    · have h3 : sgn o = 0 := Int.le_antisymm (Int.le_of_lt_add_one (Int.lt_iff_le_and_ne.mpr ⟨h.2, h1⟩)) h.1
      rw [if_neg (fun q => h1 q.1), if_neg (fun q => h1 q.1), h3]; decide
theorem rs_shift {s T P : Int} (J : Nat) (h : 1 ≤ T) (hW : W T ≤ 53) (hP0 : -1000 ≤ P) : rs s (T * 2 ^ J) (P - J) = rs s T P := by
  obtain ⟨j, hj⟩ : ∃ j, W T + j = 53 := ⟨_, Nat.add_sub_cancel' hW⟩
  rw [rs_exact h hj hP0]
  unfold rs
  by_cases hp : 0 ≤ P - J
  · rw [if_pos hp]
    obtain ⟨n, hn⟩ := Int.eq_ofNat_of_zero_le hp
    have e := rr_exact (s := s) (a := J + n) (b := 0) h hj (by omega)
    rw [Int.pow_zero, Int.mul_one, Int.pow_add, ← Int.mul_assoc] at e
    rw [hn, Int.toNat_natCast, e]
    congr 1; omega
  · rw [if_neg hp]
    obtain ⟨n, hn⟩ := Int.eq_ofNat_of_zero_le (a := -(P - J)) (by omega)
    have e := rr_exact (s := s) (a := J) (b := n) h hj (by omega)
    rw [hn, Int.toNat_natCast, e]
    congr 1; omega
theorem Okay.pow0 (o t : Int) : enc (o ^ (0 : Int).toNat) (t * 0) = 4607182418800017408 := by
  rw [Int.mul_zero, show o ^ (0 : Int).toNat = 1 from Int.pow_zero o]; exact one_enc
theorem c_fi (w : World) (n : Int) (t : Tok) (hW : Builtin.Int.intBits n ≤ 100) : Ct w 4 119 [.int n t] (RI (fi n)) := by
  by_cases h0 : n = 0
  · subst h0
    exact c_from_int0 w t
  · unfold fi
    rw [if_neg h0]
    exact c_from_int w n t h0 hW
theorem c_pw (w : World) (o t k : Int) (t1 t2 : Tok) (h : Okay o t) (hk : 0 ≤ k) (hk1 : k ≤ 5000) (hf : Okay (o ^ k.toNat) (t * k)) :
    Ct w 6 189 [.int (enc o t) t1, .int (fi k) t2] (RI (enc (o ^ k.toNat) (t * k))) := by
  by_cases h0 : k = 0
  · subst h0
    rw [Okay.pow0]
    exact c_power0 w _ t1 t2
  · have kn : ¬ k < 0 := Int.not_lt.mpr hk
    obtain ⟨m', x', hb⟩ := fi_IntD h0 (W_le.mpr (by unfold ab; rw [if_neg kn]; omega))
    have hw := hf.w
    rw [ab_pow] at hw
    have ek : (if k < 0 then -k else k) = k := if_neg kn
    obtain ⟨j, hj, hd⟩ := h.dbl
    have ej : t - (j : Int) + (j : Int) = t := Int.sub_add_cancel _ _
    have c := c_powerD w _ _ _ _ _ _ m' x' j t1 t2 hd hb h.pos (ab_odd h.odd) (by rw [ek]; exact Nat.le_trans hw (by decide)) (by rw [ek, ej]; exact Int.le_trans (by decide) hf.t0) (by rw [ek, ej]; exact Int.le_trans hf.t1 (by decide))
    have e : wp (if sgn o = 1 ∧ k.fmod 2 = 1 then 1 else 0) (ab o) (t - (j : Int) + (j : Int)) k = enc (o ^ k.toNat) (t * k) := by
      unfold wp enc
      rw [if_pos (Int.lt_iff_le_and_ne.mpr ⟨hk, Ne.symm h0⟩), ek, ej, ab_pow, sgn_pow h.ne, fmod2, Int.toNat_of_nonneg hk]
    rw [e] at c
    exact c
theorem neg_mod2 (k : Int) : -k % 2 = k % 2 := by omega
theorem c_pwn (w : World) (o t k : Int) (t1 t2 : Tok) (h : Okay o t) (hk : 0 ≤ k) (hk1 : k ≤ 5000) (hf : Okay (o ^ k.toNat) (t * k)) :
    Ct w 6 189 [.int (enc o t) t1, .int (fi (-k)) t2] (RI (recip (o ^ k.toNat) (t * k))) := by
  by_cases h0 : k = 0
  · subst h0
    have e : recip (o ^ (0 : Int).toNat) (t * 0) = 4607182418800017408 := by rw [Int.mul_zero, show o ^ (0 : Int).toNat = 1 from Int.pow_zero o]; exact one_recip
    rw [e]
    exact c_power0 w _ t1 t2
  · have kn : -k < 0 := by omega
    obtain ⟨m', x', hb⟩ := fi_IntD (n := -k) (Int.ne_of_lt kn) (W_le.mpr (by unfold ab; rw [if_pos kn]; omega))
    have hw := hf.w
    rw [ab_pow] at hw
    have ek : (if -k < 0 then - -k else -k) = k := by rw [if_pos kn, Int.neg_neg]
    obtain ⟨j, hj, hd⟩ := h.dbl
    have ej : t - (j : Int) + (j : Int) = t := Int.sub_add_cancel _ _
    have c := c_powerD w _ _ _ _ _ _ m' x' j t1 t2 hd hb h.pos (ab_odd h.odd) (by rw [ek]; exact Nat.le_trans hw (by decide)) (by rw [ek, ej]; exact Int.le_trans (by decide) hf.t0) (by rw [ek, ej]; exact Int.le_trans hf.t1 (by decide))
    have e : wp (if sgn o = 1 ∧ (-k).fmod 2 = 1 then 1 else 0) (ab o) (t - (j : Int) + (j : Int)) (-k) = recip (o ^ k.toNat) (t * k) := by
      have em : (if sgn o = 1 ∧ (-k).fmod 2 = 1 then (1 : Int) else 0) = if sgn o = 1 ∧ k % 2 = 1 then 1 else 0 := by
        have e2 : (-k).fmod 2 = k % 2 := by rw [fmod2]; exact neg_mod2 k
        rw [e2]
      unfold wp recip
      rw [if_neg (Int.not_lt.mpr (Int.le_of_lt kn)), ek, ej, ab_pow, sgn_pow h.ne, em, Int.toNat_of_nonneg hk]
    rw [e] at c
    exact c
theorem c_ml (w : World) (o1 s1 o2 s2 : Int) (t1 t2 : Tok) (h1 : Okay o1 s1) (h2 : Okay o2 s2) (h : Okay (o1 * o2) (s1 + s2)) :
    Ct w 5 147 [.int (enc o1 s1) t1, .int (enc o2 s2) t2] (RI (enc (o1 * o2) (s1 + s2))) := by
  have ea := ab_mul o1 o2
  have hp := h.pos
  obtain ⟨j1, hj1, hd1⟩ := h1.dbl
  obtain ⟨j2, hj2, hd2⟩ := h2.dbl
  have em : ab o1 * 2 ^ j1 * (ab o2 * 2 ^ j2) = ab (o1 * o2) * 2 ^ (j1 + j2) := by
    rw [ea, Int.pow_add]
    rw [Int.mul_assoc, Int.mul_assoc]
    congr 1
    rw [← Int.mul_assoc, Int.mul_comm (2 ^ j1) (ab o2), Int.mul_assoc]
  have ew : W (ab (o1 * o2) * 2 ^ (j1 + j2)) = W (ab (o1 * o2)) + (j1 + j2) := W_mul (fun e => by rw [e] at hp; exact absurd hp (by decide)) _
  have hg := (W_ge hp).1
  have hw := h.w
  have b0 := h.t0
  have b1 := h.t1
  have ex : s1 - (j1 : Int) + (s2 - (j2 : Int)) = (s1 + s2) - ((j1 + j2 : Nat) : Int) := by omega
  have c := c_mul w _ _ _ _ _ _ _ _ t1 t2 hd1 hd2 (by rw [em, show Builtin.Int.intBits _ = _ from ew, ex]; omega) (by rw [em, show Builtin.Int.intBits _ = _ from ew, ex]; omega)
  have e : rs ((sgn o1 + sgn o2) % 2) (ab o1 * 2 ^ j1 * (ab o2 * 2 ^ j2)) (s1 - (j1 : Int) + (s2 - (j2 : Int))) = enc (o1 * o2) (s1 + s2) := by
    unfold enc
    rw [em, sgn_mul h1.ne h2.ne]
    rw [ex]
    exact rs_shift _ hp hw (Int.le_trans (by decide) b0)
  rw [e] at c
  exact c

end
section
theorem one_Dbl : Dbl 4607182418800017408 0 4503599627370496 (-52) := ⟨by decide, by decide, by decide, by decide, by decide, by decide, by decide⟩
theorem rr_recip {s T t : Int} {A B : Nat} (hT : 1 ≤ T) (h : (B : Int) - A = t) : rr s (1 * 2 ^ A) (T * 2 ^ B) = if 0 ≤ t then rr s 1 (T * 2 ^ t.toNat) else rr s (1 * 2 ^ (-t).toNat) T := by
  by_cases ht : 0 ≤ t
  · rw [if_pos ht]
    obtain ⟨n, hn⟩ := Int.eq_ofNat_of_zero_le ht
    have e : B = n + A := by omega
    rw [hn, Int.toNat_natCast, e, Int.pow_add, ← Int.mul_assoc]
    exact rr_scale A (by decide) (shl_pos _ hT)
  · rw [if_neg ht]
    obtain ⟨n, hn⟩ := Int.eq_ofNat_of_zero_le (a := -t) (by omega)
    have e : A = n + B := by omega
    rw [hn, Int.toNat_natCast, e, Int.pow_add, ← Int.mul_assoc]
    exact rr_scale B (shl_pos _ (by decide)) hT
theorem min_le1 (a b : Int) : (if a < b then a else b) ≤ a := by split <;> omega
theorem min_le2 (a b : Int) : (if a < b then a else b) ≤ b := by split <;> omega
theorem c_dv (w : World) (o t : Int) (t1 t2 : Tok) (h : Okay o t) : Ct w 5 154 [.int 4607182418800017408 t1, .int (enc o t) t2] (RI (recip o t)) := by
  have b0 := h.t0
  have b1 := h.t1
  obtain ⟨j, hj, hd⟩ := h.dbl
  have c := c_div w _ _ _ _ _ _ _ _ t1 t2 one_Dbl hd (by omega) (by omega)
  have es : (0 + sgn o) % 2 = sgn o := by rw [Int.zero_add]; exact Int.emod_eq_of_lt (sgn01 o).1 (Int.lt_of_le_of_lt (sgn01 o).2 (by decide))
  have l1 := min_le1 (t - (j : Int)) (-52)
  have l2 := min_le2 (t - (j : Int)) (-52)
  generalize (if t - (j : Int) < -52 then t - (j : Int) else -52) = q at *
  have e : rr ((0 + sgn o) % 2) (4503599627370496 * 2 ^ ((-52 : Int) - q).toNat) (ab o * 2 ^ j * 2 ^ (t - (j : Int) - q).toNat) = recip o t := by
    obtain ⟨n1, h1⟩ := Int.eq_ofNat_of_zero_le (Int.sub_nonneg_of_le l1)
    obtain ⟨n2, h2⟩ := Int.eq_ofNat_of_zero_le (Int.sub_nonneg_of_le l2)
    have e52 : (4503599627370496 : Int) = 1 * 2 ^ 52 := by decide
    rw [h1, h2, Int.toNat_natCast, Int.toNat_natCast, es, e52, Int.mul_assoc 1, Int.mul_assoc (ab o), ← Int.pow_add, ← Int.pow_add]
    unfold recip
    exact rr_recip h.pos (by omega)
  rw [e] at c
  exact c
theorem signed_m (o : Int) (j : Nat) : (if sgn o = 1 then -(ab o * 2 ^ j) else ab o * 2 ^ j) = o * 2 ^ j := by
  unfold sgn ab
  by_cases h : o < 0
  · rw [if_pos h, if_pos h, if_pos rfl, ← Int.neg_mul]; congr 1; omega
  · rw [if_neg h, if_neg h, if_neg (by omega)]
theorem c_lip (w : World) (nm : Addr) (o t b k : Int) (u1 u2 u3 u u0 : Tok) (c : Nat) (ho0 : -100 ≤ o) (ho1 : o ≤ 100) (ht0 : -100 ≤ t) (ht1 : t ≤ 100) (hk0 : 0 ≤ k) (hk1 : k ≤ 5000)
    (h : Okay (o ^ k.toNat) (t * k)) :
    CtM w 3 229 nm (tup [.int o u1, .int t u2, .int b u3] c) [.int (enc (o ^ k.toNat) (t * k)) u0, .ref nm, .int k u] (RB true) := by
  have b0 := h.t0
  have b1 := h.t1
  have hw : Builtin.Int.intBits (o ^ k.toNat) ≤ 60 := by
    have h1 := W_le.mp h.w
    refine intBits_le_iff.mpr (Nat.lt_of_lt_of_le ?_ (Nat.pow_le_pow_right (by decide) (by decide : 53 ≤ 60)))
    rw [ab_nat] at h1
    simpa using h1
  obtain ⟨j, hj, hd⟩ := h.dbl
  generalize hO : o ^ k.toNat = O at *
  generalize hP : t * k = P at *
  refine c_law_is_power w nm _ _ _ _ o t b k u1 u2 u3 u u0 c hd ho0 ho1 ht0 ht1 hk0 hk1 (by rw [hO]; exact hw) (by rw [hP]; exact Int.le_trans (by decide) b0) (by rw [hP]; exact Int.le_trans b1 (by decide)) (fun hp => ?_) (fun hn => ?_)
  · rw [hP] at hp
    rw [hO, hP]
    unfold ex1 ex2
    rw [signed_m]
    obtain ⟨n, rfl⟩ := Int.eq_ofNat_of_zero_le hp
    by_cases hx : 0 ≤ (n : Int) - (j : Int)
    · obtain ⟨q, hq⟩ := Int.eq_ofNat_of_zero_le hx
      rw [if_pos hx, if_pos hx, Int.mul_one, Int.mul_assoc, ← Int.pow_add, hq, Int.toNat_natCast, Int.toNat_natCast, show j + q = n by omega]
    · obtain ⟨q, hq⟩ := Int.eq_ofNat_of_zero_le (a := -((n : Int) - (j : Int))) (by omega)
      rw [if_neg hx, if_neg hx, Int.one_mul, Int.mul_assoc, ← Int.pow_add, hq, Int.toNat_natCast, Int.toNat_natCast, show n + q = j by omega]
  · rw [hP] at hn
    rw [hO, hP]
    unfold ex1 ex2
    rw [signed_m]
    obtain ⟨n, hn'⟩ := Int.eq_ofNat_of_zero_le (a := -P) (by omega)
    obtain ⟨q, hq⟩ := Int.eq_ofNat_of_zero_le (a := -(P - (j : Int))) (by omega)
    rw [if_neg (by omega), if_neg (by omega), Int.one_mul, Int.mul_assoc, ← Int.pow_add, hn', hq, Int.toNat_natCast, Int.toNat_natCast, show j + n = q by omega]
theorem od_range (c : Int) : 1 ≤ od c ∧ od c ≤ 31 ∧ od c % 2 = 1 := by
  unfold od
  rw [show (c.fdiv 2).fmod 16 = (c.fdiv 2) % 16 from Int.fmod_eq_emod_of_nonneg _ (by decide)]
  have a := Int.emod_nonneg (c.fdiv 2) (show (16 : Int) ≠ 0 by decide)
  have b := Int.emod_lt_of_pos (c.fdiv 2) (show (0 : Int) < 16 by decide)
  generalize c.fdiv 2 % 16 = y at *
  exact ⟨by omega, by omega, Int.mul_add_emod_self_left 2 y 1⟩
theorem nT_range (c : Int) : -20 ≤ nT c ∧ nT c ≤ 20 := by
  unfold nT
  have e : (c.fdiv 32).fmod 41 = (c.fdiv 32) % 41 := Int.fmod_eq_emod_of_nonneg _ (by decide)
  rw [e]; omega
theorem nO_range (c : Int) : -31 ≤ nO c ∧ nO c ≤ 31 ∧ nO c % 2 = 1 := by
  have h := od_range c
  unfold nO
  split
  · exact ⟨Int.neg_le_neg h.2.1, Int.le_trans (Int.neg_le_neg h.1) (by decide), by rw [neg_mod2]; exact h.2.2⟩
  · exact ⟨Int.le_trans (by decide) h.1, h.2.1, h.2.2⟩
theorem od_neg (c : Int) : -(od c) < 0 := Int.neg_neg_of_pos (od_range c).1
theorem od_nneg (c : Int) : ¬ od c < 0 := Int.not_lt.mpr (Int.le_trans (by decide) (od_range c).1)
theorem ab_nO (c : Int) : ab (nO c) = od c := by
  unfold ab nO
  by_cases h : c.fmod 2 = 1
  · rw [if_pos h, if_pos (od_neg c), Int.neg_neg]
  · rw [if_neg h, if_neg (od_nneg c)]
theorem sgn_nO (c : Int) : sgn (nO c) = c.fmod 2 := by
  unfold sgn nO
  by_cases h : c.fmod 2 = 1
  · rw [if_pos h, if_pos (od_neg c), h]
  · rw [if_neg h, if_neg (od_nneg c)]
    rw [fmod2] at h ⊢
    exact ((Int.emod_two_eq c).resolve_right h).symm
theorem nB_dbl {v s o t T : Int} (s0 : 0 ≤ s) (s1 : s ≤ 1) (t0 : -20 ≤ t) (t1 : t ≤ 20) (T0 : 0 ≤ T) (T1 : T ≤ 4) (h0 : 2 ^ T.toNat ≤ o) (h1 : o < 2 * 2 ^ T.toNat)
    (hv : v = s * 9223372036854775808 + (1023 + t + T) * 4503599627370496 + (o - 2 ^ T.toNat) * 2 ^ (52 - T).toNat) : Dbl v s (o * 2 ^ (52 - T).toNat) (t - ((52 - T).toNat : Nat)) := by
  have e : (2 : Int) ^ T.toNat * 2 ^ (52 - T).toNat = 4503599627370496 := by
    rw [← Int.pow_add, show T.toNat + (52 - T).toNat = 52 by omega]; decide
  have eT : ((52 - T).toNat : Int) = 52 - T := Int.toNat_of_nonneg (by omega)
  have hb : (0 : Int) < 2 ^ (52 - T).toNat := Int.pow_pos (by decide)
  generalize (2 : Int) ^ (52 - T).toNat = b at *
  generalize (2 : Int) ^ T.toNat = a at *
  have m0 : a * b ≤ o * b := Int.mul_le_mul_of_nonneg_right h0 (Int.le_of_lt hb)
  have m1 : o * b < 2 * a * b := Int.mul_lt_mul_of_pos_right h1 hb
  rw [Int.mul_assoc, e] at m1
  rw [e] at m0
  rw [Int.sub_mul, e] at hv
  rw [eT]
  generalize o * b = m at *
  clear e h0 h1 eT
  exact ⟨s0, s1, m0, m1, by omega, by omega, by omega⟩
theorem nB_enc (c : Int) : nB c = enc (nO c) (nT c) := by
  have h1 := od_range c
  have h2 := nT_range c
  have h3 : 0 ≤ tp c ∧ tp c ≤ 4 := tpo_range (od c)
  have h4 : 2 ^ (tp c).toNat ≤ od c ∧ od c < 2 * 2 ^ (tp c).toNat := by
    obtain ⟨n, hn⟩ := Int.eq_ofNat_of_zero_le (Int.le_trans (by decide) h1.1)
    have h := tpo_facts n (by omega) (by omega)
    rw [← hn] at h
    exact h
  have e4 : c.fmod 2 = c % 2 := fmod2 c
  have s0 : 0 ≤ c.fmod 2 := e4 ▸ Int.emod_nonneg c (by decide)
  have s1 : c.fmod 2 ≤ 1 := e4 ▸ Int.le_of_lt_add_one (Int.emod_lt_of_pos c (by decide))
  have hv : Dbl (nB c) (c.fmod 2) (od c * 2 ^ (52 - tp c).toNat) (nT c - ((52 - tp c).toNat : Nat)) := nB_dbl s0 s1 h2.1 h2.2 h3.1 h3.2 h4.1 h4.2 (by unfold nB; rw [two63, two52])
  have eT : ((52 - tp c).toNat : Int) = 52 - tp c := Int.toNat_of_nonneg (by omega)
  have h := rs_of hv h1.1 (by rw [eT]; omega) (by rw [eT]; omega)
  rw [h]
  unfold enc
  rw [ab_nO, sgn_nO, Int.sub_add_cancel]
theorem c_num (w : World) (c : Int) (t : Tok) (h0 : 0 ≤ c) (hc : Builtin.Int.intBits c ≤ 1048576) : Ct w 1 215 [.int c t] (RT3 (nO c) (nT c) (enc (nO c) (nT c))) := by
  rw [← nB_enc]; exact c_law_number w c t h0 hc
theorem Okay.num (c : Int) : Okay (nO c) (nT c) := by
  have h1 := nO_range c
  have h2 := nT_range c
  have h3 := od_range c
  exact ⟨h1.2.2, W_le.mpr (by rw [ab_nO]; omega), by omega, by omega⟩

end
section
theorem fits_okay {o t k : Int} (ho : o % 2 = 1) (h : fits o t k = true) : Okay (o ^ k.toNat) (t * k) := by
  unfold fits at h
  rw [Bool.and_eq_true] at h
  have h1 := of_decide_eq_true h.1
  have h2 := of_decide_eq_true h.2
  have e53 : (2 : Int) ^ Int.toNat 53 = 9007199254740992 := by decide
  rw [e53] at h1
  refine ⟨odd_pow ho _, W_le.mpr ?_, by omega, by omega⟩
  rw [ab_pow]
  have h3 : 0 ≤ ab o ^ k.toNat := Int.pow_nonneg (by unfold ab; split <;> omega)
  have h4 : ab o ^ k.toNat < 9007199254740992 := h1
  omega
theorem pow_mono {b B : Int} (h0 : 0 ≤ b) (h : b ≤ B) : ∀ k : Nat, b ^ k ≤ B ^ k
  | 0 => by rw [Int.pow_zero, Int.pow_zero]; exact Int.le_refl _
  | k + 1 => by
    rw [Int.pow_succ, Int.pow_succ]
    exact Int.mul_le_mul (pow_mono h0 h k) h h0 (Int.pow_nonneg (Int.le_trans h0 h))
theorem base_mono {B a b : Nat} (hB : 0 < B) (h : a ≤ b) : (B : Int) ^ a ≤ (B : Int) ^ b := by
  have := Nat.pow_le_pow_right (n := B) hB h
  exact_mod_cast this
theorem pow_le4 {b : Int} (h0 : 0 ≤ b) (h1 : b ≤ 31) {k : Nat} (hk : k ≤ 4) : b ^ k < 9007199254740992 :=
  Int.lt_of_le_of_lt (Int.le_trans (pow_mono h0 h1 k) (base_mono (B := 31) (by decide) hk)) (by decide)
theorem ab_nonneg (o : Int) : 0 ≤ ab o := by unfold ab; split <;> omega
theorem mul_range {a b A B : Int} (ha0 : -A ≤ a) (ha1 : a ≤ A) (hb0 : 0 ≤ b) (hb1 : b ≤ B) (hA : 0 ≤ A) : -(A * B) ≤ a * b ∧ a * b ≤ A * B := by
  have h1 : a * b ≤ A * b := Int.mul_le_mul_of_nonneg_right ha1 hb0
  have h2 : A * b ≤ A * B := Int.mul_le_mul_of_nonneg_left hb1 hA
  have h3 : -A * b ≤ a * b := Int.mul_le_mul_of_nonneg_right ha0 hb0
  rw [Int.neg_mul] at h3
  omega
theorem okay_small {o t s : Int} (h : Okay o t) (ho : ab o ≤ 31) (ht0 : -40 ≤ t) (ht1 : t ≤ 40) (hs0 : 0 ≤ s) (hs1 : s ≤ 4) : Okay (o ^ s.toNat) (t * s) := by
  have := mul_range ht0 ht1 hs0 hs1 (by decide)
  refine ⟨odd_pow h.odd _, W_le.mpr ?_, by omega, by omega⟩
  rw [ab_pow]
  have h3 : 0 ≤ ab o ^ s.toNat := Int.pow_nonneg (ab_nonneg o)
  have h4 := pow_le4 (ab_nonneg o) ho (k := s.toNat) (by omega)
  omega
theorem c_powFound (w : World) (o t a b : Int) (t1 t2 : Tok) (ha : 0 ≤ a) (hb : 0 ≤ b) (hb1 : b ≤ 4) (h : Okay (o ^ a.toNat) (t * a)) (hf : Okay (o ^ (a * b).toNat) (t * (a * b))) :
    Ct w 6 189 [.int (enc (o ^ a.toNat) (t * a)) t1, .int (fi b) t2] (RI (enc (o ^ (a * b).toNat) (t * (a * b)))) := by
  have e1 : o ^ (a * b).toNat = (o ^ a.toNat) ^ b.toNat := by
    rw [← Int.pow_mul]; congr 1
    obtain ⟨x, rfl⟩ := Int.eq_ofNat_of_zero_le ha
    obtain ⟨y, rfl⟩ := Int.eq_ofNat_of_zero_le hb
    rw [← Int.natCast_mul, Int.toNat_natCast, Int.toNat_natCast, Int.toNat_natCast]
  have e2 : t * (a * b) = t * a * b := (Int.mul_assoc _ _ _).symm
  rw [e1, e2] at hf ⊢
  exact c_pw w _ _ b t1 t2 h hb (by omega) hf
theorem c_mulFound (w : World) (o t a b : Int) (t1 t2 : Tok) (ha : 0 ≤ a) (hb : 0 ≤ b) (h : Okay (o ^ a.toNat) (t * a)) (hs : Okay (o ^ b.toNat) (t * b)) (hf : Okay (o ^ (a + b).toNat) (t * (a + b))) :
    Ct w 5 147 [.int (enc (o ^ a.toNat) (t * a)) t1, .int (enc (o ^ b.toNat) (t * b)) t2] (RI (enc (o ^ (a + b).toNat) (t * (a + b)))) := by
  have e1 : o ^ (a + b).toNat = o ^ a.toNat * o ^ b.toNat := by rw [← Int.pow_add, Int.toNat_add ha hb]
  have e2 : t * (a + b) = t * a + t * b := Int.mul_add _ _ _
  rw [e1, e2] at hf ⊢
  exact c_ml w _ _ _ _ t1 t2 h hs hf
theorem Okay.both {o1 t1 o2 t2 s : Int} (h1 : Okay o1 t1) (h2 : Okay o2 t2) (l1 : ab o1 ≤ 31) (l2 : ab o2 ≤ 31) (a0 : -20 ≤ t1) (a1 : t1 ≤ 20) (b0 : -20 ≤ t2) (b1 : t2 ≤ 20) : Okay (o1 * o2) (t1 + t2) := by
  refine ⟨by rw [Int.mul_emod, h1.odd, h2.odd]; decide, W_le.mpr ?_, by omega, by omega⟩
  have h3 : ab o1 * ab o2 ≤ 31 * 31 := Int.mul_le_mul l1 l2 (ab_nonneg _) (by decide)
  have h4 : 0 ≤ ab o1 * ab o2 := Int.mul_nonneg (ab_nonneg _) (ab_nonneg _)
  rw [ab_mul]
  omega
theorem pow_le4' {b : Int} (h0 : 0 ≤ b) (h1 : b ≤ 961) {k : Nat} (hk : k ≤ 4) : b ^ k < 9007199254740992 :=
  Int.lt_of_le_of_lt (Int.le_trans (pow_mono h0 h1 k) (base_mono (B := 961) (by decide) hk)) (by decide)
theorem Okay.bothPow {o1 t1 o2 t2 s : Int} (h1 : Okay o1 t1) (h2 : Okay o2 t2) (l1 : ab o1 ≤ 31) (l2 : ab o2 ≤ 31) (a0 : -20 ≤ t1) (a1 : t1 ≤ 20) (b0 : -20 ≤ t2) (b1 : t2 ≤ 20) (hs0 : 0 ≤ s) (hs1 : s ≤ 4) : Okay ((o1 * o2) ^ s.toNat) ((t1 + t2) * s) := by
  have h := Okay.both (s := s) h1 h2 l1 l2 a0 a1 b0 b1
  have h3 : ab o1 * ab o2 ≤ 31 * 31 := Int.mul_le_mul l1 l2 (ab_nonneg _) (by decide)
  have := mul_range (a := t1 + t2) (A := 40) (by omega) (by omega) hs0 hs1 (by decide)
  refine ⟨odd_pow h.odd _, W_le.mpr ?_, by omega, by omega⟩
  rw [ab_pow, ab_mul]
  have h4 : 0 ≤ (ab o1 * ab o2) ^ s.toNat := Int.pow_nonneg (Int.mul_nonneg (ab_nonneg _) (ab_nonneg _))
  have h5 := pow_le4' (Int.mul_nonneg (ab_nonneg o1) (ab_nonneg o2)) (by omega) (k := s.toNat) (by omega)
  omega
theorem c_mulPows (w : World) (o1 t1 o2 t2 s : Int) (u1 u2 : Tok) (h1 : Okay (o1 ^ s.toNat) (t1 * s)) (h2 : Okay (o2 ^ s.toNat) (t2 * s)) (h : Okay ((o1 * o2) ^ s.toNat) ((t1 + t2) * s)) :
    Ct w 5 147 [.int (enc (o1 ^ s.toNat) (t1 * s)) u1, .int (enc (o2 ^ s.toNat) (t2 * s)) u2] (RI (enc ((o1 * o2) ^ s.toNat) ((t1 + t2) * s))) := by
  have e1 : (o1 * o2) ^ s.toNat = o1 ^ s.toNat * o2 ^ s.toNat := Int.mul_pow ..
  have e2 : (t1 + t2) * s = t1 * s + t2 * s := Int.add_mul ..
  rw [e1, e2] at h ⊢
  exact c_ml w _ _ _ _ u1 u2 h1 h2 h
theorem fi_bits {n : Int} (h0 : -5000 ≤ n) (h1 : n ≤ 5000) : Builtin.Int.intBits n ≤ 100 := intBits_le_iff.mpr (by omega)
/-- the frame of the law within its loop -/
noncomputable def lawMap (fo ma nu ot ce : Value) (u : Str → Option Value) : Str → Option Value := fun z =>
  if z = Str.ofString "found" then some fo else if z = Str.ofString "many" then some ma else if z = Str.ofString "number" then some nu else if z = Str.ofString "other" then some ot else if z = Str.ofString "cells" then some ce else u z
theorem lawMap_self {fo ma nu ot ce : Value} {m : Str → Option Value} (h1 : m (Str.ofString "found") = some fo) (h2 : m (Str.ofString "many") = some ma) (h3 : m (Str.ofString "number") = some nu) (h4 : m (Str.ofString "other") = some ot) (h5 : m (Str.ofString "cells") = some ce) : m = lawMap fo ma nu ot ce m := by
  funext z
  unfold lawMap
  (repeat' split) <;> simp_all
/-- what holds between the turns of the law's loop, n items left -/
noncomputable def LInv (o t : Int) (nu ot ce : Value) (n : Nat) (m : Str → Option Value) : Prop :=
  ∃ (k : Int) (tf tm : Tok) (u : Str → Option Value), m = lawMap (.int (enc (o ^ k.toNat) (t * k)) tf) (.int k tm) nu ot ce u ∧ n ≤ 5 ∧ 0 ≤ k ∧ k ≤ 4 ^ (6 - n) ∧ Okay (o ^ k.toNat) (t * k)
theorem four_le {a b : Nat} (h : a ≤ b) : (4 : Int) ^ a ≤ 4 ^ b := by
  have := Nat.pow_le_pow_right (n := 4) (by decide) h
  exact_mod_cast this
theorem LInv.bound {n : Nat} {k : Int} (hn : n ≤ 5) (h : k ≤ 4 ^ (6 - n)) : k ≤ 4096 :=
  Int.le_trans h (Int.le_trans (four_le (Nat.sub_le 6 n)) (by decide))
theorem LInv.grow {n : Nat} {k : Int} (hn : n + 1 ≤ 5) (h : k ≤ 4 ^ (6 - (n + 1))) : 4 * k ≤ 4 ^ (6 - n) ∧ k + 4 ≤ 4 ^ (6 - n) ∧ k ≤ 4 ^ (6 - n) ∧ k ≤ 1024 := by
  have e : 6 - n = (6 - (n + 1)) + 1 := (Nat.sub_add_cancel (Nat.sub_pos_of_lt (Nat.lt_of_lt_of_le (Nat.lt_of_succ_le hn) (by decide)))).symm
  have b0 : (4 : Int) ^ 1 ≤ 4 ^ (6 - (n + 1)) := four_le (Nat.sub_pos_of_lt (Nat.lt_of_le_of_lt hn (by decide)))
  have b1 : (4 : Int) ^ (6 - (n + 1)) ≤ 4 ^ 5 := four_le (Nat.sub_le_sub_left (Nat.succ_le_succ (Nat.zero_le n)) 6)
  rw [e, Int.pow_succ]
  generalize (4 : Int) ^ (6 - (n + 1)) = b at *
  clear e hn
  have h4 : k + 4 ≤ b * 4 := by omega
  exact ⟨by rw [Int.mul_comm b 4]; exact Int.mul_le_mul_of_nonneg_left h (by decide), h4, Int.le_trans (Int.le_add_of_nonneg_right (by decide)) h4, Int.le_trans h (Int.le_trans b1 (by decide))⟩
theorem mul_le4 {k s B : Int} (hk : 0 ≤ k) (hs0 : 0 ≤ s) (hs1 : s ≤ 4) (h : 4 * k ≤ B) : 0 ≤ k * s ∧ k * s ≤ B := by
  have h1 : k * s ≤ k * 4 := Int.mul_le_mul_of_nonneg_left hs1 hk
  exact ⟨Int.mul_nonneg hk hs0, by omega⟩
section
variable {prog : Program} {w : World} {A : Around} {E : Value → Shared → Prop} {Q : Flow → Shared → Prop} {s : Shared} {env : Env} {h₀ : Heap} {target : Expr} {body : List Stmt}
/-- one turn's end -/
noncomputable def TurnEndN (h₀ : Heap) (L : Addr) (s : Shared) (its news : List (Addr × Obj)) (inv : (Str → Option Value) → Prop) (fl : Flow) (s₃ : Shared) : Prop :=
  fl = .next ∧ ∃ h' tk' m', s₃ = { s with heap := h', toks := tk' } ∧ Fr h₀ L h' m' ∧ News h₀ L h' (its ++ news) ∧ inv m'
theorem turnEndN {L : Addr} {its news news' : List (Addr × Obj)} {inv : (Str → Option Value) → Prop} {h' : Heap} {tk' : Nat} {m' : Str → Option Value}
    (F : Fr h₀ L h' m') (N : News h₀ L h' news') (hn : ∀ p ∈ its ++ news, p ∈ news') (hi : inv m') : TurnEndN h₀ L s its news inv .next { s with heap := h', toks := tk' } :=
  ⟨rfl, h', tk', m', rfl, F, fun p hp => N p (hn p hp), hi⟩
theorem items_foldN {I : Addr} {cls : String} {keep news : List (Addr × Obj)} (inv : Nat → (Str → Option Value) → Prop) (P : Int → Prop) (hk : SubL keep news) (hI : ∀ p ∈ news, p.1 < I)
    (turn : ∀ (n : Nat) (st : Int) (t : Tok) (m : Str → Option Value) (h : Heap) (tk : Nat) (o : Obj), P st → inv (n + 1) m → Fr h₀ env.locals h m → News h₀ env.locals h ((I, o) :: news) →
      wpAny (model prog w) A (assign target env (.int st t)) (fun _ s₂ => wpAny (model prog w) A (execs body env) (TurnEndN h₀ env.locals s [(I, o)] news (inv n)) E s₂) E { s with heap := h, toks := tk }) :
    ∀ (l : List (Int × Tok)) (m : Str → Option Value), (∀ x ∈ l, P x.1) → inv l.length m →
      (∀ h tk m', inv 0 m' → Fr h₀ env.locals h m' → News h₀ env.locals h news → Q .next { s with heap := h, toks := tk }) →
      ItemsRest prog w A E h₀ env target body Q s [(I, cls)] keep ((l.map fun x => Value.int x.1 x.2).map .val) m news
  | [], m, _, hi, fin => ItemsRest.zero fun h tk F N => fin h tk m hi F N
  | (st, t) :: r, m, hl, hi, fin => by
    refine ItemsRest.val fun h tk F => AllObj.cons fun o _ => AllObj.nil fun N => ?_
    refine wpAny_mono (turn r.length st t m h tk o (hl _ (.head _)) hi F N) (fun _ s₂ p => wpAny_mono p (fun fl s₃ q => ?_) fun _ _ x => x) fun _ _ x => x
    obtain ⟨rfl, h', tk', m', rfl, F', N', hi'⟩ := q
    exact ⟨h', tk', m', news, rfl, F', N', fun p hp q hq e => by
      rw [List.mem_singleton.mp hq] at e
      exact absurd (hI p hp) (by rw [e]; exact Nat.lt_irrefl _), hk, items_foldN inv P hk hI turn r m' (fun x hx => hl x (.tail _ hx)) hi' fin⟩
theorem items_foldL {I : Addr} {cls : String} {keep news : List (Addr × Obj)} {o t : Int} {nu ot ce : Value} (hk : SubL keep news) (hI : ∀ p ∈ news, p.1 < I)
    (turn : ∀ (n : Nat) (st : Int) (tk0 : Tok) (k : Int) (tf tm : Tok) (u : Str → Option Value) (h : Heap) (tk : Nat) (ob : Obj), 0 ≤ st → n + 1 ≤ 5 → 0 ≤ k → k ≤ 4 ^ (6 - (n + 1)) → Okay (o ^ k.toNat) (t * k) →
      Fr h₀ env.locals h (lawMap (.int (enc (o ^ k.toNat) (t * k)) tf) (.int k tm) nu ot ce u) → News h₀ env.locals h ((I, ob) :: news) →
      wpAny (model prog w) A (assign target env (.int st tk0)) (fun _ s₂ => wpAny (model prog w) A (execs body env) (TurnEndN h₀ env.locals s [(I, ob)] news (LInv o t nu ot ce n)) E s₂) E { s with heap := h, toks := tk })
    (l : List (Int × Tok)) (m : Str → Option Value) (hl : ∀ x ∈ l, 0 ≤ x.1) (hi : LInv o t nu ot ce l.length m)
    (fin : ∀ (h : Heap) (tk : Nat) (k : Int) (tf tm : Tok) (u : Str → Option Value), 0 ≤ k → k ≤ 4 ^ 6 → Okay (o ^ k.toNat) (t * k) → Fr h₀ env.locals h (lawMap (.int (enc (o ^ k.toNat) (t * k)) tf) (.int k tm) nu ot ce u) → News h₀ env.locals h news → Q .next { s with heap := h, toks := tk }) :
    ItemsRest prog w A E h₀ env target body Q s [(I, cls)] keep ((l.map fun x => Value.int x.1 x.2).map .val) m news := by
  refine items_foldN (LInv o t nu ot ce) (fun c => 0 ≤ c) hk hI ?_ l m hl hi ?_
  · intro n st tk0 m h tk ob hst hv F N
    obtain ⟨k, tf, tm, u, rfl, h1, h2, h3, h4⟩ := hv
    exact turn n st tk0 k tf tm u h tk ob hst h1 h2 h3 h4 F N
  · intro h tk m hv F N
    obtain ⟨k, tf, tm, u, rfl, h1, h2, h3, h4⟩ := hv
    exact fin h tk k tf tm u h2 h3 h4 F N
end
theorem ints_pairs {vs : List Value} {ns : List Int} (h : IntsAre vs ns) : ∃ l : List (Int × Tok), vs = l.map (fun x => Value.int x.1 x.2) ∧ ns = l.map (·.1) := by
  induction h with
  | nil => exact ⟨[], rfl, rfl⟩
  | cons n t _ ih =>
    obtain ⟨l, rfl, rfl⟩ := ih
    exact ⟨(n, t) :: l, rfl, rfl⟩
theorem CtM.use {w : World} {d : Nat} {f nm : Addr} {ob : Obj} {vs : List Value} {Ret : Heap → Addr → (Str → Option Value) → List (Addr × Obj) → Shared → (Value → Shared → Prop) → Prop} (C : CtM w d f nm ob vs Ret)
    {mean : ExcName → Option Value} {mg mb : Str → Option Value} {dp un : Nat} {gd : Option (List Code)} {cn : Str} {cs : Scope} {a : Addr} {ccd : Value} {cl : List (Str × Addr)} {outer : List Env} {A₀ : Around} {base h₀ : Heap} {L : Addr} {m : Str → Option Value} {news : List (Addr × Obj)} {s : Shared} {Q E : Value → Shared → Prop}
    (B : Below A₀ base outer h₀) (F : Fr h₀ L s.heap m) (X : (hd.heap_39 w.params).In h₀) (N : News h₀ L s.heap news) (T : Top hd.view_39 Lo mean mg mb h₀) (hk : cs.kind = .function)
    (hd : dp + d < recursionLimit) (hu : un + 8 * d < cLine) (hm : (nm, ob) ∈ news) (ret : Ret h₀ L m news s Q) :
    wpAny (model Prg w) (ktrTop dp un gd cn cs L a ccd cl outer) (call (.ref f) vs) Q E s := C _ _ _ _ _ _ _ _ _ _ _ _ _ _ _ _ _ _ _ _ _ B F X N T hk hd hu hm ret
/-- the cells of a script -/
noncomputable abbrev lawCells (ns : List Int) : List Int := List.map (fun k' => if k' < 0 then -k' else k') (List.take 7 ns) ++ List.drop (((List.take 7 ns).length : Nat) : Int).toNat [747, 485, 9, 7]
theorem cells_pos (ns : List Int) : ∀ x ∈ lawCells ns, 0 ≤ x := by
  intro x hx
  rcases List.mem_append.mp hx with h | h
  · obtain ⟨y, -, rfl⟩ := List.mem_map.mp h
    split <;> omega
  · have := List.mem_of_mem_drop h
    simp at this
    omega
theorem cells_bits {ns : List Int} (hL : (PyData.list (List.map PyData.int ns)).layable0 = true) : ∀ x ∈ lawCells ns, Builtin.Int.intBits x ≤ 1048576 := by
  intro x hx
  rcases List.mem_append.mp hx with h | h
  · obtain ⟨y, hy, rfl⟩ := List.mem_map.mp h
    have hb := intBits_le_of_item (List.mem_of_mem_take hy) hL
    exact intBits_ite_le (intBits_neg_le hb) hb |> fun h => Nat.le_trans h (by simp)
  · have := List.mem_of_mem_drop h
    refine intBits_le_iff.mpr (Nat.lt_of_lt_of_le (m := 2 ^ 20) ?_ (Nat.pow_le_pow_right (by decide) (by decide)))
    simp at this
    omega
theorem cells_getD {ns : List Int} (hL : (PyData.list (List.map PyData.int ns)).layable0 = true) (i : Nat) : 0 ≤ (lawCells ns).getD i 0 ∧ Builtin.Int.intBits ((lawCells ns).getD i 0) ≤ 1048576 := by
  rw [List.getD_eq_getElem?_getD]
  cases h : (lawCells ns)[i]? with
  | none => exact ⟨by decide, by decide⟩
  | some x =>
    have hm := List.mem_of_getElem? h
    exact ⟨cells_pos ns x hm, cells_bits hL x hm⟩
theorem len47 : ∀ x : Nat, x < 8 → 4 ≤ x + (4 - x) ∧ x + (4 - x) ≤ 7 := by decide
theorem cells_len (ns : List Int) : 4 ≤ (lawCells ns).length ∧ (lawCells ns).length ≤ 7 := by
  have h := len47 (List.take 7 ns).length (by rw [List.length_take]; exact Nat.lt_succ_of_le (Nat.min_le_left _ _))
  simp only [lawCells, List.length_append, List.length_map, List.length_drop, List.length_cons, List.length_nil, Int.toNat_natCast]
  exact h

end
section
theorem setW11 : True := by
  k_with "way11" =>
    (k_here; refine mul_int ?_ (hm := by assumption))
  trivial
local macro_rules | `(tactic| walk_at "binaryOp Mult int int") => `(tactic| k_extra "way11")
theorem setW12 : True := by
  k_with "way12" =>
    (k_here; (with_reducible show wpAny _ _ (subscriptTail _ (PySem.Expr.Slice _ _ none _) (Value.ref _) (Value.ref _)) _ _ _); k_dflt (refine kmk_slice_ints (by k_asm) (by k_asm) (by kmk_list) (by kmk_part) (by kmk_part) (by l_ints) (by kmk_nums) (by kmk_len) ?_ (by with_unfolding_all rfl) (by kmk_pure) (by kmk_size)); intro D' ws' h' F' N' l1 hI' hC' hL'; (try simp only [Int.reduceNeg, Int.neg_neg, Int.reduceToNat] at hI' hC' hL'); (try k_lt l1); (try k_sweep))
  trivial
local macro_rules | `(tactic| walk_at "subscriptTail Name Slice ref ref") => `(tactic| k_extra "way12")
theorem ints4 {a b c d : Tok} : IntsAre [.int 747 a, .int 485 b, .int 9 c, .int 7 d] [747, 485, 9, 7] := .cons _ _ (.cons _ _ (.cons _ _ (.cons _ _ .nil)))
theorem setW13 : True := by
  k_with "way13" =>
    (k_here; (with_reducible show wpAny _ _ (subscriptTail (Expr.List _ _) (PySem.Expr.Slice _ _ none _) (Value.ref _) (Value.ref _)) _ _ _); k_dflt (refine kba_turn (value' := PySem.Expr.Name (PySem.Str.ofString "_") ⟨0, 0, 0, 0⟩) (fun _ => rfl) ?_); k_dflt (refine kmk_slice_ints (ns := [747, 485, 9, 7]) (by k_asm) (by k_asm) (by kmk_list) (by kmk_part) (by kmk_part) ints4 (kmk_from ints4 (Int.natCast_nonneg _)) (List.length_drop ..) ?_ (by with_unfolding_all rfl) (by kmk_pure) (Nat.le_of_ble_eq_true rfl)); intro D' ws' h' F' N' l1 hI' hC' hL'; (try simp only [Int.reduceNeg, Int.neg_neg, Int.reduceToNat] at hI' hC' hL'); (try k_lt l1); (try k_sweep))
  trivial
local macro_rules | `(tactic| walk_at "subscriptTail") => `(tactic| k_extra "way13")

theorem c_fiS (w : World) (c : Int) (t : Tok) : Ct w 4 119 [.int ((c.fdiv 3).fmod 5) t] (RI (fi ((c.fdiv 3).fmod 5))) := by
  have e : (c.fdiv 3).fmod 5 = (c.fdiv 3) % 5 := Int.fmod_eq_emod_of_nonneg _ (by decide)
  exact c_fi w _ t (fi_bits (by rw [e]; omega) (by rw [e]; omega))
theorem okay_zero (o t : Int) : Okay (o ^ (0 : Int).toNat) (t * 0) := by
  rw [Int.mul_zero, show o ^ (0 : Int).toNat = 1 from Int.pow_zero o]
  exact ⟨by decide, by decide, by decide, by decide⟩
theorem step_range (c : Int) : 0 ≤ (c.fdiv 3).fmod 5 ∧ (c.fdiv 3).fmod 5 ≤ 4 := by
  have e : (c.fdiv 3).fmod 5 = (c.fdiv 3) % 5 := Int.fmod_eq_emod_of_nonneg _ (by decide)
  rw [e]; omega
theorem cellsD {C : List Int} (h0 : ∀ x ∈ C, 0 ≤ x) (h1 : ∀ x ∈ C, Builtin.Int.intBits x ≤ 1048576) (i : Nat) : 0 ≤ C.getD i 0 ∧ Builtin.Int.intBits (C.getD i 0) ≤ 1048576 := by
  rw [List.getD_eq_getElem?_getD]
  cases h : C[i]? with
  | none => exact ⟨by decide, by decide⟩
  | some x => exact ⟨h0 x (List.mem_of_getElem? h), h1 x (List.mem_of_getElem? h)⟩
/-- behind the turn's if: found and many are laid anew -/
noncomputable def JL (o t B : Int) (u : Str → Option Value) (fl : Flow) (m' : Str → Option Value) : Prop :=
  fl = Flow.next ∧ ∃ (k : Int) (tf tm : Tok), m' = over2 (Str.ofString "found") (Str.ofString "many") (.int (enc (o ^ k.toNat) (t * k)) tf) (.int k tm) u ∧ 0 ≤ k ∧ k ≤ B ∧ Okay (o ^ k.toNat) (t * k)
theorem joinL {prog : Program} {w : World} {A : Around} {c : Sem Flow} {Q : Flow → Shared → Prop} {E : Value → Shared → Prop} {h₀ : Heap} {L : Addr} {m : Str → Option Value} {news : List (Addr × Obj)} {h₁ : Heap} {g : Array GenState} {d : Drawn} {tk : Nat} {os : OsState} {o t B : Int} {u : Str → Option Value} (F : Fr h₀ L h₁ m) (N : News h₀ L h₁ news)
    (walk : ∀ Q' : Flow → Shared → Prop, (∀ v h' tk' m', Fr h₀ L h' m' → News h₀ L h' news → JL o t B u v m' → Q' v ⟨h', g, d, tk', os⟩) → wpAny (model prog w) A c Q' E ⟨h₁, g, d, tk, os⟩)
    (rest : ∀ (h' : Heap) (tk' : Nat) (k : Int) (tf tm : Tok), Fr h₀ L h' (over2 (Str.ofString "found") (Str.ofString "many") (.int (enc (o ^ k.toNat) (t * k)) tf) (.int k tm) u) → News h₀ L h' news → 0 ≤ k → k ≤ B → Okay (o ^ k.toNat) (t * k) → Q .next ⟨h', g, d, tk', os⟩) : wpAny (model prog w) A c Q E ⟨h₁, g, d, tk, os⟩ := by
  refine joinS (JL o t B u) F N walk ?_
  intro v h' tk' m' F' N' hv
  obtain ⟨rfl, k, tf, tm, rfl, h1, h2, h3⟩ := hv
  exact rest h' tk' k tf tm F' N' h1 h2 h3
theorem JL.put {o t B k : Int} {tf tm : Tok} {u : Str → Option Value} (h0 : 0 ≤ k) (h1 : k ≤ B) (h : Okay (o ^ k.toNat) (t * k)) : JL o t B u .next (over2 (Str.ofString "found") (Str.ofString "many") (.int (enc (o ^ k.toNat) (t * k)) tf) (.int k tm) u) := ⟨rfl, k, tf, tm, rfl, h0, h1, h⟩
theorem JL.self {o t B k : Int} {tf tm : Tok} {u : Str → Option Value} (h0 : 0 ≤ k) (h1 : k ≤ B) (h : Okay (o ^ k.toNat) (t * k)) (e1 : u (Str.ofString "many") = some (.int k tm)) (e2 : u (Str.ofString "found") = some (.int (enc (o ^ k.toNat) (t * k)) tf)) : JL o t B u .next u := ⟨rfl, k, tf, tm, over2_self e2 e1, h0, h1, h⟩
theorem range4 {B k s : Int} (hk : 0 ≤ k) (hs0 : 0 ≤ s) (hs1 : s ≤ 4) (hb : k + 4 ≤ B) (hB : B ≤ 4096) : 0 ≤ k + s ∧ k + s ≤ B ∧ k + s ≤ 5000 ∧ k ≤ 5000 ∧ k ≤ B := by omega
theorem range31 {o : Int} (h : -31 ≤ o ∧ o ≤ 31) : -100 ≤ o ∧ o ≤ 100 := by omega
theorem range20 {t : Int} (h : -20 ≤ t ∧ t ≤ 20) : (-100 ≤ t ∧ t ≤ 100) ∧ -40 ≤ t ∧ t ≤ 40 := by omega
theorem LInv.start {o t : Int} {m : Str → Option Value} {n : Nat} {nu ot ce : Value} {tf tm : Tok} (h1 : m (Str.ofString "found") = some (.int 4607182418800017408 tf)) (h2 : m (Str.ofString "many") = some (.int 0 tm)) (h3 : m (Str.ofString "number") = some nu) (h4 : m (Str.ofString "other") = some ot) (h5 : m (Str.ofString "cells") = some ce) (hn : n ≤ 5) : LInv o t nu ot ce n m :=
  ⟨0, tf, tm, m, lawMap_self (by rw [Okay.pow0]; exact h1) h2 h3 h4 h5, hn, Int.le_refl _, Int.pow_nonneg (by decide), okay_zero _ _⟩
theorem LInv.next {o t k : Int} {m : Str → Option Value} {n : Nat} {nu ot ce : Value} {tf tm : Tok} (h1 : m (Str.ofString "found") = some (.int (enc (o ^ k.toNat) (t * k)) tf)) (h2 : m (Str.ofString "many") = some (.int k tm)) (h3 : m (Str.ofString "number") = some nu) (h4 : m (Str.ofString "other") = some ot) (h5 : m (Str.ofString "cells") = some ce)
    (hn : n + 1 ≤ 5) (hk : 0 ≤ k) (hb : k ≤ 4 ^ (6 - n)) (h : Okay (o ^ k.toNat) (t * k)) : LInv o t nu ot ce n m := ⟨k, tf, tm, m, lawMap_self h1 h2 h3 h4 h5, Nat.le_of_succ_le hn, hk, hb, h⟩
theorem turn_facts {n : Nat} {k s : Int} (hn : n + 1 ≤ 5) (hk : 0 ≤ k) (hb : k ≤ 4 ^ (6 - (n + 1))) (hs : 0 ≤ s ∧ s ≤ 4) :
    (0 ≤ k * s ∧ k * s ≤ 4 ^ (6 - n) ∧ k * s ≤ 5000) ∧ (0 ≤ k + s ∧ k + s ≤ 4 ^ (6 - n) ∧ k + s ≤ 5000) ∧ (k ≤ 5000 ∧ k ≤ 4 ^ (6 - n)) ∧ (4 : Int) ^ (6 - n) ≤ 5000 := by
  have hg := LInv.grow hn hb
  have hm := mul_le4 hk hs.1 hs.2 hg.1
  have h4 : (4 : Int) ^ (6 - n) ≤ 4096 := LInv.bound (n := n) (Nat.le_of_succ_le hn) (Int.le_refl _)
  have hB : (4 : Int) ^ (6 - n) ≤ 5000 := Int.le_trans h4 (by decide)
  have hr := range4 hk hs.1 hs.2 hg.2.1 h4
  exact ⟨⟨hm.1, hm.2, Int.le_trans hm.2 hB⟩, ⟨hr.1, hr.2.1, hr.2.2.1⟩, ⟨hr.2.2.2.1, hr.2.2.2.2⟩, hB⟩
theorem imul {k s : Int} (h0 : 0 ≤ k) (h1 : k ≤ 5000) : PySem.IntMulOk k s := PySem.IntMulOk.of_left (intBits_le_iff.mpr (by omega))
theorem fi_ok {n : Int} (h0 : 0 ≤ n) (h1 : n ≤ 5000) : Builtin.Int.intBits n ≤ 100 := fi_bits (Int.le_trans (by decide) h0) h1
theorem fi_neg {n : Int} (h0 : 0 ≤ n) (h1 : n ≤ 5000) : Builtin.Int.intBits (-n) ≤ 100 := fi_bits (Int.neg_le_neg h1) (Int.le_trans (Int.neg_nonpos_of_nonneg h0) (by decide))
theorem drop2 {C : List Int} {l : List (Int × Tok)} (h : C.drop 2 = l.map (·.1)) (h7 : C.length ≤ 7) (hp : ∀ x ∈ C, 0 ≤ x) : l.length ≤ 5 ∧ ∀ x ∈ l, 0 ≤ x.1 := by
  constructor
  · have h2 := congrArg List.length h
    rw [List.length_drop, List.length_map] at h2
    omega
  · intro x hx
    refine hp _ (List.mem_of_mem_drop (i := 2) ?_)
    rw [h]
    exact List.mem_map.mpr ⟨x, hx, rfl⟩
theorem law1 : PySem.Challenge.rw_sz0075_01.Holds := hd (by
  k_go0
  rename_i w s0 s1 mg mb G Y fa o pm doc kV ho hg KX X V GL T B TE TW a1 o1 M a2 a3 hcd ns hs hlay0 hL hr1 hl2 l4 l3 sl vs l0 hLst ra w1 r0 hI hr hc1 hc0 K0 hD h1 F N0
  clear hD K0
  have K0 := below_caller (Top.heap T)
  clear hcd M a1 o1 B TE TW GL V X Y G ho
  dsimp only
  all_goals try k_fold
  refine letAll ?_; intro A1 Q1 E1
  repeat' (first
    | (k_unfold; (try dsimp only))
    | (k_end; wrow_close)
    | ((fail_if_success (with_reducible show wpAny _ _ (exec (Stmt.Assign [Expr.Tuple _ _ _] _ _) _) _ _ _)); first | walk1 | (dsimp only; walk1))
    | fail "no step")
  rename IntsAre _ (List.map (fun k' => if k' < 0 then -k' else k') (List.take 7 ns) ++ List.drop _ _) => hI2
  rename News _ _ _ _ => lN
  have hN2 := cb_drop lN (fun p hp => by rw [List.mem_singleton.mp hp]; exact List.Mem.head _)
  clear lN
  obtain ⟨C, hIC, hC4, hC7, hCp, hCb⟩ : ∃ C : List Int, IntsAre _ C ∧ 4 ≤ C.length ∧ C.length ≤ 7 ∧ (∀ x ∈ C, 0 ≤ x) ∧ (∀ x ∈ C, Builtin.Int.intBits x ≤ 1048576) := ⟨lawCells ns, hI2, (cells_len ns).1, (cells_len ns).2, cells_pos ns, cells_bits hL⟩
  clear hI2
  clear hI hr hLst ra w1 r0 hs hL hr1 hl2 hlay0 hc1 hc0
  repeat' (first
    | (k_unfold; (try dsimp only)) | ((with_reducible show wpAny _ _ (eval (Expr.BinOp _ _ _ _) _) _ _ _); k_dflt (refine Ev.bin2 (by k_asm) (by k_extra "ev") (by k_extra "ev") ?_); k_whole) | ((with_reducible show wpAny _ _ (PySem.isTrue (Expr.Compare _ [_] [_] _) _ _) _ _ _); k_dflt (refine Ev.cmp2 (by k_asm) (by k_extra "ev") (by k_extra "ev") ?_ rfl); k_whole) | ((with_reducible show wpAny _ _ (eval (Expr.Call (Expr.Name _ _) (_ :: _) [] _) _) _ _ _); k_dflt (refine Evs.call (by k_asm) (by k_asm) (by k_asm) (by k_is) (by k_is) (by k_extra "evs") ?_ rfl rfl rfl rfl rfl); k_whole) | ((with_reducible show wpAny _ _ (storeName _ _ _) _ _ _); walk1; (rename Fr _ _ _ _ => lF); refine letM lF ?_; clear lF; intro m9 lF)
    | (k_end; wrow_close)
    | ((with_reducible show wpAny _ _ (call (Value.ref _) _) _ _ _); (refine Ct.use (c_num _ _ _ (cellsD hCp hCb _).1 (cellsD hCp hCb _).2) (by k_asm) (by k_asm) (by k_asm) (by k_asm) (by k_asm) (by first | exact rfl | assumption) (by first | exact room1 hdp (by decide) | ktr_room) (by first | exact units1 hun (by decide) | ktr_units) ?_; intro D9 tok1 tok2 tok3 c9 h9 tk9 F9 N9 l9; (try simp only [AllLt, and_true] at l9); (try dsimp only); (try k_sweep); (try k_fold)))
    | ((fail_if_success (with_reducible show wpAny _ _ (call (Value.ref _) _) _ _ _)); (fail_if_success (with_reducible show wpAny _ _ (exec (Stmt.For _ _ _ _ _) _) _ _ _)); first | (dsimp only; walk1) | walk1)
    | fail "no step")
  rename Fr _ _ _ _ => lF
  rename News _ _ _ _ => lN
  generalize hO1 : nO (C.getD (Int.toNat 0) 0) = o1 at lN
  generalize hT1 : nT (C.getD (Int.toNat 0) 0) = t1 at lN
  generalize hO2 : nO (C.getD (Int.toNat 1) 0) = o2 at lN
  generalize hT2 : nT (C.getD (Int.toNat 1) 0) = t2 at lN
  have hN2 := cb_drop lN (fun p hp => List.mem_of_mem_tail (List.mem_of_mem_tail hp))
  clear lN
  dsimp only [List.tail] at hN2
  have hO1r := hO1 ▸ nO_range (C.getD (Int.toNat 0) 0)
  have hO2r := hO2 ▸ nO_range (C.getD (Int.toNat 1) 0)
  have hT1r := hT1 ▸ nT_range (C.getD (Int.toNat 0) 0)
  have hT2r := hT2 ▸ nT_range (C.getD (Int.toNat 1) 0)
  have hk1 : Okay o1 t1 := by rw [← hO1, ← hT1]; exact Okay.num _
  have hk2 : Okay o2 t2 := by rw [← hO2, ← hT2]; exact Okay.num _
  have hab1 : ab o1 ≤ 31 := by rw [← hO1, ab_nO]; exact (od_range _).2.1
  have hab2 : ab o2 ≤ 31 := by rw [← hO2, ab_nO]; exact (od_range _).2.1
  clear hO1 hO2 hT1 hT2
  (with_unfolding_all refine' For_turns lF ?_)
  repeat' (first
    | ((fail_if_success (with_reducible show wpAny _ _ (pyIter _) _ _ _)); first | (dsimp only; walk1) | walk1)
    | fail "no step")
  have hO1m := range31 ⟨hO1r.1, hO1r.2.1⟩
  have hT1m := range20 hT1r
  have hT2m := range20 hT2r
  rename Fr _ _ _ _ => lF2
  rename News _ _ _ _ => lN
  rename IntsAre _ (List.drop 2 _) => hI2
  obtain ⟨l, hl1, hl2⟩ := ints_pairs hI2
  subst hl1
  clear hI2
  have hl5 := drop2 hl2 hC7 hCp
  clear hl2
  refine iter_listTurns (by rfl) lF2 lN (List.Mem.head _) rfl rfl (fun I hI => ?_)
  refine items_foldL (o := o1) (t := t1) (by exact And.intro (List.Mem.head _) trivial) hI ?_ l _ hl5.2 (LInv.start rfl rfl rfl rfl rfl hl5.1) ?_
  · intro n c tc k tf tm u h tk o9 hc hn hk0 hkB hok F N
    have hs0 := step_range c
    have hf := turn_facts hn hk0 hkB hs0
    have km0 := hf.1.1
    have kmB := hf.1.2.1
    have km5 := hf.1.2.2
    have kp0 := hf.2.1.1
    have kpB := hf.2.1.2.1
    have kp5 := hf.2.1.2.2
    have k5 := hf.2.2.1.1
    have kB := hf.2.2.1.2
    have hB5 := hf.2.2.2
    clear hf
    clear hkB
    have hsm : Okay (o1 ^ ((c.fdiv 3).fmod 5).toNat) (t1 * (c.fdiv 3).fmod 5) := okay_small hk1 hab1 hT1m.2.1 hT1m.2.2 hs0.1 hs0.2
    have hmul : PySem.IntMulOk k ((c.fdiv 3).fmod 5) := imul hk0 k5
    try k_fold
    repeat' (first
      | (k_unfold; (try dsimp only)) | ((with_reducible show wpAny _ _ (eval (Expr.BinOp _ _ _ _) _) _ _ _); k_dflt (refine Ev.bin2 (by k_asm) (by k_extra "ev") (by k_extra "ev") ?_); k_whole) | ((with_reducible show wpAny _ _ (PySem.isTrue (Expr.Compare _ [_] [_] _) _ _) _ _ _); k_dflt (refine Ev.cmp2 (by k_asm) (by k_extra "ev") (by k_extra "ev") ?_ rfl); k_whole) | ((with_reducible show wpAny _ _ (eval (Expr.Call (Expr.Name _ _) (_ :: _) [] _) _) _ _ _); k_dflt (refine Evs.call (by k_asm) (by k_asm) (by k_asm) (by k_is) (by k_is) (by k_extra "evs") ?_ rfl rfl rfl rfl rfl); k_whole) | ((with_reducible show wpAny _ _ (storeName _ _ _) _ _ _); walk1; (rename Fr _ _ _ _ => lF); refine letM lF ?_; clear lF; intro m9 lF)
      | ((fail_if_success (with_reducible show wpAny _ _ (exec (Stmt.If _ _ _ _) _) _ _ _)); first | (dsimp only; walk1) | walk1)
      | fail "no step")
    (rename Fr _ _ _ _ => jF); (rename News _ _ _ _ => jN)
    refine' joinL (o := o1) (t := t1) (B := 4 ^ (6 - n)) (u := ?ju) jF jN ?ja ?jb
    rotate_left
    · intro Q9 hQ
      repeat' (first
        | (k_unfold; (try dsimp only)) | ((with_reducible show wpAny _ _ (exec _ _) _ _ _); (try dsimp only); refine letQ ?_; intro Q8; walk1) | ((with_reducible show wpAny _ _ (eval (Expr.BinOp _ _ _ _) _) _ _ _); k_dflt (refine Ev.bin2 (by k_asm) (by k_extra "ev") (by k_extra "ev") ?_); k_whole) | ((with_reducible show wpAny _ _ (PySem.isTrue (Expr.Compare _ [_] [_] _) _ _) _ _ _); k_dflt (refine Ev.cmp2 (by k_asm) (by k_extra "ev") (by k_extra "ev") ?_ rfl); k_whole) | ((with_reducible show wpAny _ _ (eval (Expr.Call (Expr.Name _ _) (_ :: _) [] _) _) _ _ _); k_dflt (refine Evs.call (by k_asm) (by k_asm) (by k_asm) (by k_is) (by k_is) (by k_extra "evs") ?_ rfl rfl rfl rfl rfl); k_whole) | ((with_reducible show wpAny _ _ (storeName _ _ _) _ _ _); walk1; (rename Fr _ _ _ _ => lF); refine letM lF ?_; clear lF; intro m9 lF)
        | ((with_reducible show wpAny _ _ (call (Value.ref _) _) _ _ _); first
          | (refine Ct.use (c_fi _ _ _ (fi_ok hs0.1 (Int.le_trans hs0.2 (by decide)))) (by k_asm) (by k_asm) (by k_asm) (by k_asm) (by k_asm) (by first | exact rfl | assumption) (by first | exact room1 hdp (by decide) | ktr_room) (by first | exact units1 hun (by decide) | ktr_units) ?_; intro t9 h9 tk9 F9 N9; (try dsimp only); (try k_sweep); (try k_fold))
          | (refine CtM.use (c_law_fits _ _ o1 t1 _ _ _ _ _ _ _ hO1m.1 hO1m.2 hT1m.1.1 hT1m.1.2 km0 km5) (by k_asm) (by k_asm) (by k_asm) (by k_asm) (by k_asm) (by first | exact rfl | assumption) (by first | exact room1 hdp (by decide) | ktr_room) (by first | exact units1 hun (by decide) | ktr_units) (by k_mem) ?_; intro h9 tk9 F9 N9; (try dsimp only); (try k_sweep); (try k_fold))
          | (refine CtM.use (c_law_fits _ _ o1 t1 _ _ _ _ _ _ _ hO1m.1 hO1m.2 hT1m.1.1 hT1m.1.2 kp0 kp5) (by k_asm) (by k_asm) (by k_asm) (by k_asm) (by k_asm) (by first | exact rfl | assumption) (by first | exact room1 hdp (by decide) | ktr_room) (by first | exact units1 hun (by decide) | ktr_units) (by k_mem) ?_; intro h9 tk9 F9 N9; (try dsimp only); (try k_sweep); (try k_fold))
          | (refine Ct.use (c_powFound _ _ _ _ _ _ _ hk0 hs0.1 hs0.2 hok (fits_okay hO1r.2.2 (by assumption))) (by k_asm) (by k_asm) (by k_asm) (by k_asm) (by k_asm) (by first | exact rfl | assumption) (by first | exact room1 hdp (by decide) | ktr_room) (by first | exact units1 hun (by decide) | ktr_units) ?_; intro t9 h9 tk9 F9 N9; (try dsimp only); (try k_sweep); (try k_fold))
          | (refine Ct.use (c_pw _ _ _ _ _ _ hk1 hs0.1 (Int.le_trans hs0.2 (by decide)) hsm) (by k_asm) (by k_asm) (by k_asm) (by k_asm) (by k_asm) (by first | exact rfl | assumption) (by first | exact room1 hdp (by decide) | ktr_room) (by first | exact units1 hun (by decide) | ktr_units) ?_; intro t9 h9 tk9 F9 N9; (try dsimp only); (try k_sweep); (try k_fold))
          | (refine Ct.use (c_mulFound _ _ _ _ _ _ _ hk0 hs0.1 hok hsm (fits_okay hO1r.2.2 (by assumption))) (by k_asm) (by k_asm) (by k_asm) (by k_asm) (by k_asm) (by first | exact rfl | assumption) (by first | exact room1 hdp (by decide) | ktr_room) (by first | exact units1 hun (by decide) | ktr_units) ?_; intro t9 h9 tk9 F9 N9; (try dsimp only); (try k_sweep); (try k_fold)))
        | ((with_reducible show wpAny _ _ (eval (Expr.Call (Expr.Name _ _) _ _ _) _) _ _ _); refine Call_ ?_)
        | ((fail_if_success (with_reducible show wpAny _ _ (call (Value.ref _) _) _ _ _)); first | (dsimp only; walk1) | walk1)
        | fail "no step")
      all_goals first
        | contradiction
        | exact joinEnd hQ (by assumption) (by assumption) (fun p h => List.mem_cons_of_mem _ h) (JL.put km0 kmB (fits_okay hO1r.2.2 (by assumption)))
        | exact joinEnd hQ (by assumption) (by assumption) (fun p h => List.mem_cons_of_mem _ h) (JL.put kp0 kpB (fits_okay hO1r.2.2 (by assumption)))
        | exact joinEnd hQ (by assumption) (by assumption) (fun p h => h) (JL.self hk0 kB hok rfl rfl)
        | skip
    clear hsm hmul
    intro h' tk' k' tf' tm' F' N' hk0' hkB' hok'
    refine letM F' ?_; clear F'; intro m9 F'
    clear kB k5 kpB kp0 kp5 kmB km0 km5
    have k5' : k' ≤ 5000 := Int.le_trans hkB' hB5
    (try dsimp only); (try k_sweep); (try k_fold)
    repeat' (first
      | (k_unfold; (try dsimp only)) | ((with_reducible show wpAny _ _ (exec _ _) _ _ _); (try dsimp only); refine letQ ?_; intro Q8; walk1) | ((with_reducible show wpAny _ _ (eval (Expr.BinOp _ _ _ _) _) _ _ _); k_dflt (refine Ev.bin2 (by k_asm) (by k_extra "ev") (by k_extra "ev") ?_); k_whole) | ((with_reducible show wpAny _ _ (PySem.isTrue (Expr.Compare _ [_] [_] _) _ _) _ _ _); k_dflt (refine Ev.cmp2 (by k_asm) (by k_extra "ev") (by k_extra "ev") ?_ rfl); k_whole) | ((with_reducible show wpAny _ _ (eval (Expr.Call (Expr.Name _ _) (_ :: _) [] _) _) _ _ _); k_dflt (refine Evs.call (by k_asm) (by k_asm) (by k_asm) (by k_is) (by k_is) (by k_extra "evs") ?_ rfl rfl rfl rfl rfl); k_whole) | ((with_reducible show wpAny _ _ (storeName _ _ _) _ _ _); walk1; (rename Fr _ _ _ _ => lF); refine letM lF ?_; clear lF; intro m9 lF)
      | ((with_reducible show wpAny _ _ (call (Value.ref _) _) _ _ _); first
        | (refine Ct.use (c_fi _ _ _ (fi_ok hk0' k5')) (by k_asm) (by k_asm) (by k_asm) (by k_asm) (by k_asm) (by first | exact rfl | assumption) (by first | exact room1 hdp (by decide) | ktr_room) (by first | exact units1 hun (by decide) | ktr_units) ?_; intro t9 h9 tk9 F9 N9; (try dsimp only); (try k_sweep); (try k_fold))
        | (refine Ct.use (c_pw _ _ _ _ _ _ hk1 hk0' k5' hok') (by k_asm) (by k_asm) (by k_asm) (by k_asm) (by k_asm) (by first | exact rfl | assumption) (by first | exact room1 hdp (by decide) | ktr_room) (by first | exact units1 hun (by decide) | ktr_units) ?_; intro t9 h9 tk9 F9 N9; (try dsimp only); (try k_sweep); (try k_fold))
        | (refine CtM.use (c_lip _ _ _ _ _ _ _ _ _ _ _ _ hO1m.1 hO1m.2 hT1m.1.1 hT1m.1.2 hk0' k5' hok') (by k_asm) (by k_asm) (by k_asm) (by k_asm) (by k_asm) (by first | exact rfl | assumption) (by first | exact room1 hdp (by decide) | ktr_room) (by first | exact units1 hun (by decide) | ktr_units) (by k_mem) ?_; intro h9 tk9 F9 N9; (try dsimp only); (try k_sweep); (try k_fold)))
      | ((with_reducible show wpAny _ _ (eval (Expr.Call (Expr.Name _ _) _ _ _) _) _ _ _); refine Call_ ?_)
      | ((fail_if_success (with_reducible show wpAny _ _ (call (Value.ref _) _) _ _ _)); first | (dsimp only; walk1) | walk1)
      | fail "no step")
    all_goals first
      | contradiction
      | (refine turnEndN (by assumption) (by assumption) (by simp only [List.cons_append, List.nil_append]; lcg_sub) (LInv.next rfl rfl rfl rfl rfl hn hk0' hkB' hok'))
      | skip
  · intro h tk k tf tm u hk0 hkB hok F N
    try dsimp only
    try k_fold
    have k5 : k ≤ 5000 := Int.le_trans (LInv.bound (n := 0) (by decide) hkB) (by decide)
    clear hkB
    have hst := step_range (C.getD (Int.toNat 2) 0)
    have hs1 : Okay (o1 ^ (((C.getD (Int.toNat 2) 0).fdiv 3).fmod 5).toNat) (t1 * ((C.getD (Int.toNat 2) 0).fdiv 3).fmod 5) := okay_small hk1 hab1 hT1m.2.1 hT1m.2.2 hst.1 hst.2
    have hs2 : Okay (o2 ^ (((C.getD (Int.toNat 2) 0).fdiv 3).fmod 5).toNat) (t2 * ((C.getD (Int.toNat 2) 0).fdiv 3).fmod 5) := okay_small hk2 hab2 hT2m.2.1 hT2m.2.2 hst.1 hst.2
    have hbo : Okay (o1 * o2) (t1 + t2) := Okay.both (s := 0) hk1 hk2 hab1 hab2 hT1r.1 hT1r.2 hT2r.1 hT2r.2
    have hbp : Okay ((o1 * o2) ^ (((C.getD (Int.toNat 2) 0).fdiv 3).fmod 5).toNat) ((t1 + t2) * ((C.getD (Int.toNat 2) 0).fdiv 3).fmod 5) := Okay.bothPow hk1 hk2 hab1 hab2 hT1r.1 hT1r.2 hT2r.1 hT2r.2 hst.1 hst.2
    repeat' (first
      | (k_unfold; (try dsimp only)) | ((with_reducible show wpAny _ _ (exec _ _) _ _ _); (try dsimp only); refine letQ ?_; intro Q8; walk1) | ((with_reducible show wpAny _ _ (eval (Expr.BinOp _ _ _ _) _) _ _ _); k_dflt (refine Ev.bin2 (by k_asm) (by k_extra "ev") (by k_extra "ev") ?_); k_whole) | ((with_reducible show wpAny _ _ (PySem.isTrue (Expr.Compare _ [_] [_] _) _ _) _ _ _); k_dflt (refine Ev.cmp2 (by k_asm) (by k_extra "ev") (by k_extra "ev") ?_ rfl); k_whole) | ((with_reducible show wpAny _ _ (eval (Expr.Call (Expr.Name _ _) (_ :: _) [] _) _) _ _ _); k_dflt (refine Evs.call (by k_asm) (by k_asm) (by k_asm) (by k_is) (by k_is) (by k_extra "evs") ?_ rfl rfl rfl rfl rfl); k_whole) | ((with_reducible show wpAny _ _ (storeName _ _ _) _ _ _); walk1; (rename Fr _ _ _ _ => lF); refine letM lF ?_; clear lF; intro m9 lF)
      | ((with_reducible show wpAny _ _ (call (Value.ref _) _) _ _ _); first
        | (refine Ct.use (c_fiS _ _ _) (by k_asm) (by k_asm) (by k_asm) (by k_asm) (by k_asm) (by first | exact rfl | assumption) (by first | exact room1 hdp (by decide) | ktr_room) (by first | exact units1 hun (by decide) | ktr_units) ?_; intro t9 h9 tk9 F9 N9; (try dsimp only); (try k_sweep); (try k_fold))
        | (refine Ct.use (c_fi _ _ _ (fi_neg hk0 k5)) (by k_asm) (by k_asm) (by k_asm) (by k_asm) (by k_asm) (by first | exact rfl | assumption) (by first | exact room1 hdp (by decide) | ktr_room) (by first | exact units1 hun (by decide) | ktr_units) ?_; intro t9 h9 tk9 F9 N9; (try dsimp only); (try k_sweep); (try k_fold))
        | (refine Ct.use (c_pwn _ _ _ _ _ _ hk1 hk0 k5 hok) (by k_asm) (by k_asm) (by k_asm) (by k_asm) (by k_asm) (by first | exact rfl | assumption) (by first | exact room1 hdp (by decide) | ktr_room) (by first | exact units1 hun (by decide) | ktr_units) ?_; intro t9 h9 tk9 F9 N9; (try dsimp only); (try k_sweep); (try k_fold))
        | (refine Ct.use (c_dv _ _ _ _ _ hok) (by k_asm) (by k_asm) (by k_asm) (by k_asm) (by k_asm) (by first | exact rfl | assumption) (by first | exact room1 hdp (by decide) | ktr_room) (by first | exact units1 hun (by decide) | ktr_units) ?_; intro t9 h9 tk9 F9 N9; (try dsimp only); (try k_sweep); (try k_fold))
        | (refine Ct.use (c_ml _ _ _ _ _ _ _ hk1 hk2 hbo) (by k_asm) (by k_asm) (by k_asm) (by k_asm) (by k_asm) (by first | exact rfl | assumption) (by first | exact room1 hdp (by decide) | ktr_room) (by first | exact units1 hun (by decide) | ktr_units) ?_; intro t9 h9 tk9 F9 N9; (try dsimp only); (try k_sweep); (try k_fold))
        | (refine Ct.use (c_pw _ _ _ _ _ _ hbo hst.1 (Int.le_trans hst.2 (by decide)) hbp) (by k_asm) (by k_asm) (by k_asm) (by k_asm) (by k_asm) (by first | exact rfl | assumption) (by first | exact room1 hdp (by decide) | ktr_room) (by first | exact units1 hun (by decide) | ktr_units) ?_; intro t9 h9 tk9 F9 N9; (try dsimp only); (try k_sweep); (try k_fold))
        | (refine Ct.use (c_pw _ _ _ _ _ _ hk1 hst.1 (Int.le_trans hst.2 (by decide)) hs1) (by k_asm) (by k_asm) (by k_asm) (by k_asm) (by k_asm) (by first | exact rfl | assumption) (by first | exact room1 hdp (by decide) | ktr_room) (by first | exact units1 hun (by decide) | ktr_units) ?_; intro t9 h9 tk9 F9 N9; (try dsimp only); (try k_sweep); (try k_fold))
        | (refine Ct.use (c_pw _ _ _ _ _ _ hk2 hst.1 (Int.le_trans hst.2 (by decide)) hs2) (by k_asm) (by k_asm) (by k_asm) (by k_asm) (by k_asm) (by first | exact rfl | assumption) (by first | exact room1 hdp (by decide) | ktr_room) (by first | exact units1 hun (by decide) | ktr_units) ?_; intro t9 h9 tk9 F9 N9; (try dsimp only); (try k_sweep); (try k_fold))
        | (refine Ct.use (c_mulPows _ _ _ _ _ _ _ _ hs1 hs2 hbp) (by k_asm) (by k_asm) (by k_asm) (by k_asm) (by k_asm) (by first | exact rfl | assumption) (by first | exact room1 hdp (by decide) | ktr_room) (by first | exact units1 hun (by decide) | ktr_units) ?_; intro t9 h9 tk9 F9 N9; (try dsimp only); (try k_sweep); (try k_fold)))
      | ((with_reducible show wpAny _ _ (eval (Expr.Call (Expr.Name _ _) _ _ _) _) _ _ _); refine Call_ ?_)
      | ((fail_if_success (with_reducible show wpAny _ _ (call (Value.ref _) _) _ _ _)); first | (dsimp only; walk1) | walk1)
      | fail "no step")
    all_goals (try contradiction)
    all_goals (simp only [beq_self_eq_true]; wrow_close))

end
end Mine
set_option maxRecDepth 100000 in
set_option maxHeartbeats 8000000 in
theorem PySem.Challenge.cw_sz0075_01_holds : PySem.Challenge.rw_sz0075_01.Holds := by
  exact Mine.law1
