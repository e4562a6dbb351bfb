import PyProof.Rows.All
import Wide.All
import OpenK.AllK
import Wide.FinOn
import Lean
import PySem.Challenge.RW_nz0079_01
open PySem PySem.W PyProof.Rows
set_option Elab.async false
namespace Mine
set_option maxRecDepth 100000 in
set_option maxHeartbeats 8000000 in
open_top hd for PySem.Challenge.rw_nz0079_01

theorem lt_of_allLt {d : Addr} : ∀ {l : List (Addr × Obj)}, AllLt d l → ∀ p ∈ l, p.1 < d
  | [], _, _, hp => (nomatch hp)
  | q :: r, h, p, hp => by
    rcases List.mem_cons.mp hp with rfl | hp
    · exact h.1
    · exact lt_of_allLt h.2 p hp
theorem ne_of_lt {d : Addr} {l : List (Addr × Obj)} (h : ∀ p ∈ l, p.1 < d) : ∀ p ∈ l, p.1 ≠ d := fun p hp => Nat.ne_of_lt (h p hp)
theorem ne_of_allLt {d : Addr} {l : List (Addr × Obj)} (h : AllLt d l) : ∀ p ∈ l, p.1 ≠ d := ne_of_lt (lt_of_allLt h)

theorem mem_in {α : Type} {x : α} {l : List α} (h : x ∈ l) : List.Mem x l := h

theorem if_t {c : Prop} [Decidable c] {p q : Prop} (h : c) (hp : p) : if c then p else q := by rw [if_pos h]; exact hp
theorem if_f {c : Prop} [Decidable c] {p q : Prop} (h : ¬ c) (hq : q) : if c then p else q := by rw [if_neg h]; exact hq
theorem len_one {α : Type} {a : α} : [a].length = 1 := rfl
theorem len_nil {α : Type} : ([] : List α).length = 0 := rfl

/-- what a call of a def gives back, over any ledger -/
noncomputable def Con (w : World) (mean : ExcName → Option Value) (mg mb : Str → Option Value) (f : Addr) (sz : Nat) (news : List (Addr × Obj)) (vs : List Value) (R : Value → List (Addr × Obj) → Prop) : Prop :=
  ∀ (dp un : Nat) (gd : Option (List Code)) (cn : Str) (cs : Scope) (a : Addr) (ccd : Value) (cl : List (Str × Addr)) (outer : List Env) (A₀ : Around) (base h₀ : Heap) (L : Addr) (m : Str → Option Value) (s : Shared)
    (Q E : Value → Shared → Prop),
    Below A₀ base outer h₀ → Fr h₀ L s.heap m → (hd.heap_39 w.params).In h₀ → News h₀ L s.heap news → Top hd.view_39 (looseW hd.view_39 []) mean mg mb h₀ → cs.kind = .function → dp + sz < recursionLimit → un + 8 * sz < cLine →
    (∀ r nx h' tk', Fr h₀ L h' m → News h₀ L h' nx → R r nx → Q r { s with heap := h', toks := tk' }) →
    wpAny (model PySem.Challenge.rw_nz0079_01.row.prog w) (ktrTop dp un gd cn cs L a ccd cl outer) (call (.ref f) vs) Q E s

theorem con_use {w : World} {mean : ExcName → Option Value} {mg mb : Str → Option Value} {f : Addr} {sz : Nat} {news : List (Addr × Obj)} {vs : List Value} {R : Value → List (Addr × Obj) → Prop}
    {dp un : Nat} {gd : Option (List Code)} {cn : Str} {cs : Scope} {a : Addr} {ccd : Value} {cl : List (Str × Addr)} {outer : List Env} {A₀ : Around} {base h₀ : Heap} {L : Addr} {m : Str → Option Value} {s : Shared}
    {Q E : Value → Shared → Prop} (B : Below A₀ base outer h₀) (F : Fr h₀ L s.heap m) (X : (hd.heap_39 w.params).In h₀) (N : News h₀ L s.heap news) (T : Top hd.view_39 (looseW hd.view_39 []) mean mg mb h₀) (hk : cs.kind = .function)
    (C : Con w mean mg mb f sz news vs R) (hd : dp + sz < recursionLimit) (hu : un + 8 * sz < cLine)
    (ret : ∀ r nx h' tk', Fr h₀ L h' m → News h₀ L h' nx → R r nx → Q r { s with heap := h', toks := tk' }) :
    wpAny (model PySem.Challenge.rw_nz0079_01.row.prog w) (ktrTop dp un gd cn cs L a ccd cl outer) (call (.ref f) vs) Q E s := C _ _ _ _ _ _ _ _ _ _ _ _ _ _ _ _ _ B F X N T hk hd hu ret

/-- an int comes back, the ledger is as it was -/
noncomputable def RInt (news : List (Addr × Obj)) (x : Int) (r : Value) (nx : List (Addr × Obj)) : Prop := news = nx ∧ ∃ t, r = .int x t
/-- a new list of ints comes back, the ledger has it on top -/
noncomputable def RList (news : List (Addr × Obj)) (xs : List Int) (r : Value) (nx : List (Addr × Obj)) : Prop :=
  ∃ a its n, r = .ref a ∧ nx = (a, listOf (List.toArray its) n) :: news ∧ AllLt a news ∧ IntsAre its xs

/-- digits, the lowest first -/
noncomputable def dig (W : Nat) (n : Nat) : List Int := if n = 0 ∨ W < 2 then [] else ((n % W : Nat) : Int) :: dig W (n / W)
termination_by n
decreasing_by
  have : 0 < n := by omega
  exact Nat.div_lt_self this (by omega)

theorem dig_zero (W : Nat) : dig W 0 = [] := by rw [dig]; simp
theorem dig_pos {W n : Nat} (h : 0 < n) (hW : 2 ≤ W) : dig W n = ((n % W : Nat) : Int) :: dig W (n / W) := by
  rw [dig, if_neg (by omega)]


theorem ret_list {h₀ : Heap} {L : Addr} {m : Str → Option Value} {news led : List (Addr × Obj)} {xs ys : List Int} {s : Shared} {Q : Value → Shared → Prop} {a : Addr} {its : List Value} {n : Nat} {h' : Heap} {tk' : Nat}
    (hret : ∀ r nx h' tk', Fr h₀ L h' m → News h₀ L h' nx → RList news xs r nx → Q r { s with heap := h', toks := tk' })
    (F : Fr h₀ L h' m) (N : News h₀ L h' led) (hm : (a, listOf its.toArray n) ∈ led) (hs : ∀ p ∈ news, p ∈ led) (hl : ∀ p ∈ news, p.1 < a) (hi : IntsAre its ys) (e : ys = xs) :
    Q (.ref a) { s with heap := h', toks := tk' } := by
  subst e
  refine hret _ _ _ _ F (fun p hp => ?_) ⟨a, its, n, rfl, rfl, allLt_of hl, hi⟩
  rcases List.mem_cons.mp hp with rfl | hp
  · exact N _ hm
  · exact N p (hs p hp)
theorem ret_int {h₀ : Heap} {L : Addr} {m : Str → Option Value} {news led : List (Addr × Obj)} {x y : Int} {t : Tok} {s : Shared} {Q : Value → Shared → Prop} {h' : Heap} {tk' : Nat}
    (hret : ∀ r nx h' tk', Fr h₀ L h' m → News h₀ L h' nx → RInt news x r nx → Q r { s with heap := h', toks := tk' })
    (F : Fr h₀ L h' m) (N : News h₀ L h' led) (hs : ∀ p ∈ news, p ∈ led) (e : y = x) :
    Q (.int y t) { s with heap := h', toks := tk' } := by
  subst e
  exact hret _ _ _ _ F (fun p hp => N p (hs p hp)) ⟨rfl, _, rfl⟩

local macro_rules | `(tactic| kst_facts1) => `(tactic| (with_reducible exact IntsAre.nil))
local macro_rules | `(tactic| k_all) => `(tactic| first
  | with_reducible assumption
  | (refine Mine.ne_of_lt ?_; with_reducible assumption)
  | (refine Mine.ne_of_allLt ?_; first
    | with_reducible assumption
    | (refine And.right (a := ?a9) ?_; rotate_left; with_reducible assumption)
    | (refine And.right (a := ?a9) ?_; rotate_left; (refine And.right (a := ?b9) ?_; rotate_left; with_reducible assumption))
    | (refine And.right (a := ?a9) ?_; rotate_left; (refine And.right (a := ?b9) ?_; rotate_left; (refine And.right (a := ?c9) ?_; rotate_left; with_reducible assumption)))))
local macro_rules | `(tactic| k_mem) => `(tactic| (refine Mine.mem_in ?_; with_reducible assumption))
local macro_rules | `(tactic| k_memK) => `(tactic| (refine Mine.mem_in ?_; with_reducible assumption))
local macro_rules | `(tactic| walk_at $s:str) => `(tactic| k_extra $s)

section FeP
/-- how often a prime stands in a factorial, as the code counts it -/
noncomputable def fe (p : Nat) (n : Nat) : Nat := if n = 0 ∨ p < 2 then 0 else n / p + fe p (n / p)
termination_by n
decreasing_by
  have : 0 < n := by omega
  exact Nat.div_lt_self this (by omega)
noncomputable def feI (n p : Int) : Int := (fe p.toNat n.toNat : Nat)
theorem feI_zero {n p : Int} (h : n ≤ 0) : feI n p = 0 := by
  have : n.toNat = 0 := by omega
  unfold feI fe
  rw [if_pos (Or.inl this)]; rfl
theorem feI_step {n p : Int} (h : 0 < n) (hp : 2 ≤ p) : feI n p = Int.fdiv n p + feI (Int.fdiv n p) p := by
  obtain ⟨n, rfl⟩ := Int.eq_ofNat_of_zero_le (Int.le_of_lt h)
  obtain ⟨p, rfl⟩ := Int.eq_ofNat_of_zero_le (show 0 ≤ p by omega)
  rw [Int.fdiv_eq_ediv_of_nonneg _ (by omega)]
  unfold feI
  rw [show ((n : Int) / (p : Int)).toNat = n / p from by norm_cast]
  simp only [Int.toNat_natCast]
  conv => lhs; rw [fe]
  rw [if_neg (by omega)]
  norm_cast
noncomputable def FeInv (n0 p n found : Int) : Prop := found + feI n p = feI n0 p
theorem fdiv_nat {n p : Int} (h : 0 ≤ n) (hp : 0 ≤ p) : Int.fdiv n p = ((n.toNat / p.toNat : Nat) : Int) := by
  obtain ⟨n, rfl⟩ := Int.eq_ofNat_of_zero_le h
  obtain ⟨p, rfl⟩ := Int.eq_ofNat_of_zero_le hp
  rw [Int.fdiv_eq_ediv_of_nonneg _ (by omega)]
  norm_cast
theorem fmod_nat {n p : Int} (h : 0 ≤ n) (hp : 0 ≤ p) : Int.fmod n p = ((n.toNat % p.toNat : Nat) : Int) := by
  obtain ⟨n, rfl⟩ := Int.eq_ofNat_of_zero_le h
  obtain ⟨p, rfl⟩ := Int.eq_ofNat_of_zero_le hp
  rw [Int.fmod_eq_emod_of_nonneg _ (by omega)]
  norm_cast
theorem fdiv_le_self {n p : Int} (h : 0 ≤ n) (hp : 1 ≤ p) : Int.fdiv n p ≤ n := by
  rw [fdiv_nat h (by omega)]
  have := Nat.div_le_self n.toNat p.toNat
  omega
theorem fdiv_lt_self {n p : Int} (h : 0 < n) (hp : 2 ≤ p) : Int.fdiv n p < n := by
  rw [fdiv_nat (by omega) (by omega)]
  have := Nat.div_lt_self (n := n.toNat) (k := p.toNat) (by omega) (by omega)
  omega
theorem fdiv_nonneg' {n p : Int} (h : 0 ≤ n) (hp : 0 ≤ p) : 0 ≤ Int.fdiv n p := by
  rw [fdiv_nat h hp]; exact Int.natCast_nonneg _
theorem feInv_start (n p : Int) : FeInv n p n 0 := by simp [FeInv]
theorem feInv_turn {n0 p n found : Int} (h : FeInv n0 p n found) (hn : 0 < n) (hp : 2 ≤ p) (h5 : n < 100000) :
    0 ≤ Int.fdiv n p ∧ Int.fdiv n p < 100000 ∧ FeInv n0 p (Int.fdiv n p) (found + Int.fdiv n p) := by
  have a := fdiv_le_self (Int.le_of_lt hn) (show 1 ≤ p by omega)
  have b := fdiv_nonneg' (Int.le_of_lt hn) (show 0 ≤ p by omega)
  refine ⟨b, by omega, ?_⟩
  unfold FeInv at *
  rw [feI_step hn hp] at h
  omega

theorem feInv_end {n0 p n found : Int} (h : FeInv n0 p n found) (hn : ¬0 < n) : found = feI n0 p := by
  unfold FeInv at h
  rw [feI_zero (by omega)] at h
  omega

set_option maxRecDepth 100000 in
set_option maxHeartbeats 8000000 in
theorem fe_con (w : World) (mean : ExcName → Option Value) (mg mb : Str → Option Value) (news : List (Addr × Obj)) (n0 p : Int) (t1 t2 : Tok) (h0 : 0 ≤ n0) (h1 : n0 < 100000) (h2 : 2 ≤ p) (h3 : p < 100) :
    Con w mean mg mb 95 1 news [.int n0 t1, .int p t2] (RInt news (feI n0 p)) := by
  unfold Con
  k_fill
  w_top off
  k_with_none
  k_with "call builtin:len" => (k_here; (with_reducible show wpAny _ _ (call (Value.builtin "len") [Value.ref _]) _ _ _); k_dflt (refine' kst_len ?k1W9 ?k2W9 ?k3W9 ?k4W9 ?_; (case k1W9 => k_asm); (case k2W9 => k_mem); (case k3W9 => exact IntsAre.length (by assumption)); (case k4W9 => omega); k_whole))
  k_with "state" => (first | exact ⟨h0, h1, feInv_start n0 p⟩ | exact feInv_turn (by assumption) (by assumption) h2 (by assumption))
  k_with "measure" => (exact (fun h => (Int.toNat_lt_toNat h).mpr (fdiv_lt_self h h2)) (by assumption))
  k_with "exec While Compare cons nil" => k_while (fun _ n found => 0 ≤ n ∧ n < 100000 ∧ FeInv n0 p n found) (fun _ n _ => n.toNat) "n" "found"
  intro dp un gd cn cs a ccd cl outer A₀ base h₀ L m s Q E B F X N T hk hd hu hret
  refine wpAny_call ?_
  k_dflt ktr_enter
  k_steps
  all_goals exact ret_int hret (by assumption) (by assumption) (fun _ h => h) (feInv_end (by assumption) (by assumption))

end FeP
section NatP
noncomputable def DigInv (W : Nat) (n0 n : Int) (found : List Int) : Prop := found ++ dig W n.toNat = dig W n0.toNat
theorem digInv_start {W : Nat} {n0 : Int} : DigInv W n0 n0 [] := rfl
theorem digInv_end {W : Nat} {n0 n : Int} {found : List Int} (h : DigInv W n0 n found) (hn : ¬ 0 < n) : found = dig W n0.toNat := by
  unfold DigInv at h
  rw [show n.toNat = 0 by omega, dig_zero, List.append_nil] at h
  exact h
theorem dig_len {W : Nat} (hW : 2 ≤ W) : ∀ (k n : Nat), n < 2 ^ k → (dig W n).length ≤ k := by
  intro k
  induction k with
  | zero => intro n h; rw [show n = 0 by omega, dig_zero]; exact Nat.le_refl _
  | succ k ih =>
    intro n h
    by_cases hn : n = 0
    · rw [hn, dig_zero]; exact Nat.zero_le _
    · rw [dig_pos (by omega) hW, List.length_cons]
      have : n / W < 2 ^ k := by
        rw [Nat.div_lt_iff_lt_mul (by omega)]
        rw [Nat.pow_succ] at h
        exact Nat.lt_of_lt_of_le h (Nat.mul_le_mul_left _ hW)
      have := ih _ this
      omega
theorem digInv_len {W : Nat} (hW : 2 ≤ W) {n0 n : Int} {found : List Int} (h : DigInv W n0 n found) (h1 : n0 < 1152921504606846976) : (found.length : Int) ≤ 60 := by
  have a := dig_len hW 60 n0.toNat (by omega)
  unfold DigInv at h
  rw [← h, List.length_append] at a
  omega

theorem pow_toNat (k : Nat) : ((2 : Int) ^ k).toNat = 2 ^ k := by
  rw [← kbt_cast, Int.toNat_natCast]
theorem pow_ge2 {W : Int} (h2 : 3 ≤ W) : 2 ≤ 2 ^ W.toNat := by
  have : 2 ^ 1 ≤ 2 ^ W.toNat := Nat.pow_le_pow_right (by decide) (by omega)
  omega
theorem digInv_step {W : Nat} {n0 n x : Int} {found : List Int} (hW : 2 ≤ W) (h : DigInv W n0 n found) (hn : 0 < n) (hx : x = Int.fmod n W) :
    DigInv W n0 (Int.fdiv n W) (found ++ [x]) := by
  unfold DigInv at *
  rw [dig_pos (by omega) hW] at h
  rw [List.append_assoc, List.singleton_append, ← h, hx, fmod_nat (by omega) (by omega), fdiv_nat (by omega) (by omega), Int.toNat_natCast, Int.toNat_natCast]
theorem natInv_turn {W n0 n : Int} {found : List Int} (h2 : 3 ≤ W) (h1 : n0 < 1152921504606846976) (h : DigInv (2 ^ W.toNat) n0 n found) (hn : 0 < n) (hb : n < 1152921504606846976) :
    0 ≤ n.fdiv (2 ^ W.toNat) ∧ n.fdiv (2 ^ W.toNat) < 1152921504606846976 ∧ ((found ++ [Builtin.bitAnd n (1 * 2 ^ W.toNat - 1)]).length : Int) ≤ 60 ∧
      DigInv (2 ^ W.toNat) n0 (n.fdiv (2 ^ W.toNat)) (found ++ [Builtin.bitAnd n (1 * 2 ^ W.toNat - 1)]) := by
  have h3 := kbt_pos W.toNat
  have h4 := fdiv_le_self (Int.le_of_lt hn) (show (1 : Int) ≤ 2 ^ W.toNat by omega)
  have h5 := fdiv_nonneg' (Int.le_of_lt hn) (show (0 : Int) ≤ 2 ^ W.toNat by omega)
  have h6 := digInv_step (pow_ge2 h2) h hn (x := Builtin.bitAnd n (1 * 2 ^ W.toNat - 1)) (by rw [Int.one_mul, kbt_maskF, kbt_cast])
  rw [kbt_cast] at h6
  exact ⟨h5, by omega, digInv_len (pow_ge2 h2) h6 h1, h6⟩
theorem natInv_less {W n : Int} (h2 : 3 ≤ W) (hn : 0 < n) : (n.fdiv (2 ^ W.toNat)).toNat < n.toNat := by
  refine (Int.toNat_lt_toNat hn).mpr (fdiv_lt_self hn ?_)
  have := pow_ge2 h2
  have e := kbt_cast W.toNat
  omega

set_option maxRecDepth 100000 in
set_option maxHeartbeats 8000000 in
theorem nat_of_con (w : World) (mean : ExcName → Option Value) (mg mb : Str → Option Value) (news : List (Addr × Obj)) (n0 W : Int) (t1 t2 : Tok) (h0 : 0 ≤ n0) (h1 : n0 < 1152921504606846976) (h2 : 3 ≤ W) (h3 : W ≤ 9) :
    Con w mean mg mb 53 1 news [.int n0 t1, .int W t2] (RList news (dig (2 ^ W.toNat) n0.toNat)) := by
  unfold Con
  k_fill
  w_top off
  k_with_none
  k_with "call builtin:len" => (k_here; (with_reducible show wpAny _ _ (call (Value.builtin "len") [Value.ref _]) _ _ _); k_dflt (refine' kst_len ?k1W9 ?k2W9 ?k3W9 ?k4W9 ?_; (case k1W9 => k_asm); (case k2W9 => k_mem); (case k3W9 => exact IntsAre.length (by assumption)); (case k4W9 => omega); k_whole))
  k_with "state" => (first | exact ⟨h0, h1, (by decide), digInv_start⟩ | exact natInv_turn h2 h1 (by assumption) (by assumption) (by assumption))
  k_with "measure" => exact natInv_less h2 (by assumption)
  k_with "exec While Compare cons nil" => k_while (fun _ n found => 0 ≤ n ∧ n < 1152921504606846976 ∧ (found.length : Int) ≤ 60 ∧ DigInv (2 ^ W.toNat) n0 n found) (fun _ n _ => n.toNat) "number" "found"
  intro dp un gd cn cs a ccd cl outer A₀ base h₀ L m s Q E B F X N T hk hd hu hret
  refine wpAny_call ?_
  k_dflt ktr_enter
  k_steps
  all_goals exact ret_list hret (by assumption) (by assumption) (by k_mem) (fun _ h => .tail _ (.tail _ h)) (by assumption) (by assumption) (digInv_end (by assumption) (by assumption))

end NatP
section EnumP
section
open PySem.Calls PyProof.V PySem.Spec
variable {prog : Program} {w : World} {A : Around} {E : Value → Shared → Prop} {s : Shared} {env : Env} {h₀ : Heap} {body : List Stmt} {Q : Flow → Shared → Prop}

/-- a for over enumerate of a list of ints that the ledger bears, by an invariant over the turn's number, the frame and the ledger -/
theorem enum_invN {xi xv : Str} {pi pv pt : Pos} {k1 : Nat} {l : Addr} {vs : List Value} {ns : List Int} {n : Nat} {m₀ : Str → Option Value} {news : List (Addr × Obj)} (J : Nat → (Str → Option Value) → List (Addr × Obj) → Prop)
    (hh : A.handled = none) (hxi : env.kindOf xi = some .local) (hxv : env.kindOf xv = some .local)
    (hp : (env.scope.kind == .class || (env.scope.kind == .module && env.locals != env.globals)) = false)
    (hm : (l, listOf vs.toArray n) ∈ news) (hi : IntsAre vs ns) (F : Fr h₀ env.locals s.heap m₀) (N : News h₀ env.locals s.heap news) (hj : J 0 m₀ news)
    (hkeep : ∀ i m nx, J i m nx → (l, listOf vs.toArray n) ∈ nx)
    (turn : ∀ i x ti tx m₁ news₁ h tk own, ns[i]? = some x → news₁.map (·.1) = news.map (·.1) → OwnOff own (news.map (·.1)) → J i m₁ news₁ →
      Fr h₀ env.locals h (fun y => if y = xv then some (.int x tx) else if y = xi then some (.int (i : Nat) ti) else m₁ y) → News h₀ env.locals h (news₁ ++ own) →
      wpAny (model prog w) A (execs body env) (InvPostN h₀ env.locals (J (i + 1)) own (news.map (·.1)) { s with heap := h, toks := tk } Q) E { s with heap := h, toks := tk })
    (done : ∀ m₁ news₁ h tk, J ns.length m₁ news₁ → Fr h₀ env.locals h m₁ → News h₀ env.locals h news₁ → Q .next { s with heap := h, toks := tk }) :
    wpAny (model prog w) A (call (.type "enumerate") [.ref l]) (fun xv' s₁ => wpAny (model prog w) A (pyIter xv') (fun it s₂ => TurnsAt prog w A h₀ env (.Tuple [.Name xi pi, .Name xv pv] k1 pt) body Q E it s₂) E s₁) E s := by
  have hax := N _ hm
  have hl : s.heap.IsList l vs.toArray := ⟨_, hax.1, rfl, n, rfl⟩
  have hlt : l < s.heap.objs.size := Heap.lt_size hax.1
  have hLs : env.locals < s.heap.objs.size := F.ns.lt
  have hlen : vs.toArray.size = ns.length := by simp [hi.length]
  refine call_enumerate_list hl fun h' hE hI hsz hk => ?_
  refine wpAny_pyIter_enum hE ?_
  have W := KTurns.ofWalksU (elts := [.Name xi pi, .Name xv pv]) (k := k1) (pos := pt) (WalksT.enumerate (prog := prog) (w := w) hh (s.heap.objs.size + 1) s.heap.objs.size l (Nat.succ_ne_self _) (ktu_ne 1 hlt) (Nat.ne_of_lt hlt) vs.toArray).toU
  rw [hlen] at W
  let J' : Nat → (Str → Option Value) → List (Addr × Obj) → Prop := fun i m₁ news₁ => news₁.map (·.1) = news.map (·.1) ∧ J i m₁ news₁
  refine ⟨_, _, _, ns.length, _, _, _, m₀, news, J', rfl, W, ?_, ?_, ?_, ⟨⟨.none, hE⟩, hI, hl.at fun o e => hk l o e⟩, F.keeps hk, N.grown hk, ⟨rfl, hj⟩, ?_, ?_⟩
  · intro hI'
    have hb' : env.locals = s.heap.objs.size + 1 ∨ env.locals = s.heap.objs.size ∨ env.locals = l := by simpa using hI'
    rcases hb' with e | e | e
    · exact ktu_ne 1 hLs e
    · exact Nat.ne_of_lt hLs e
    · exact hax.2.1 e.symm
  · intro b hb
    have hb' : b = s.heap.objs.size + 1 ∨ b = s.heap.objs.size := by simpa using hb
    rcases hb' with rfl | rfl
    · exact ktu_new F (Nat.le_add_right _ _)
    · exact ktu_new F (Nat.le_refl _)
  · intro p hp hI'
    have hb' : p.1 = s.heap.objs.size + 1 ∨ p.1 = s.heap.objs.size := by simpa using hI'
    have hlp := Heap.lt_size (N p hp).1
    rcases hb' with e | e
    · exact ktu_ne 1 hlp e
    · exact Nat.ne_of_lt hlp e
  · rintro i v m₁ news₁ h₁ tk₁ own hin ⟨T, vals, rfl, ⟨t, x, hx, rfl⟩, hT⟩ ⟨hadr, hJ⟩ hoff hown hget hall hst₁ F₁ N₁
    have hlt' : i < ns.length := hin
    obtain ⟨tx, hx2⟩ := hi.get i ns[i] (by simp [hlt'])
    have hv : x = .int ns[i] tx := by
      have hP' : vs[i]? = some x := by simpa using hx
      rw [hx2] at hP'; exact (Option.some.inj hP').symm
    subst hv
    have hsep : OwnOff (own.filter fun p => decide (p.1 ≠ l)) (news.map (·.1)) := by
      intro p hp b hb e
      obtain ⟨hp1, hp2⟩ := List.mem_filter.mp hp
      obtain ⟨q, hq, rfl⟩ := List.mem_map.mp hb
      have hb' : p.1 = s.heap.objs.size + 1 ∨ p.1 = s.heap.objs.size ∨ p.1 = l := by simpa using hown p hp1
      have hlq := Heap.lt_size (N q hq).1
      rcases hb' with h1 | h1 | h1
      · exact ktu_ne 1 hlq (e.symm.trans h1)
      · exact Nat.ne_of_lt hlq (e.symm.trans h1)
      · exact of_decide_eq_true hp2 h1
    refine wpAny_assign_Tuple hh hT rfl rfl fun h₃ hx₃ => ?_
    replace hx₃ : Heap.ExtBut h₁.objs.size h₁ h₃ := hx₃
    have old₃ : ∀ b o, h₁.get? b = some o → h₃.get? b = some o := fun b o e => hx₃ b o (Nat.ne_of_lt (Heap.lt_size e)) e
    have F₃ := F₁.keeps old₃
    have N₃ := N₁.grown old₃
    show wpAny _ A (do holding [Value.int ns[i] tx] (assign (.Name xi pi) env (.int (i : Nat) t)); do holding [] (assign (.Name xv pv) env (.int ns[i] tx)); pure ()) _ _ _
    refine wpAny_bind (wpAny_holding (wpAny_assign_Name (wpAny_storeName_local hxi F₃.ns (fun h₄ hn₄ hs₄ => ?_) hp)))
    have F₄ := F₃.set hn₄ hs₄
    have N₄ := N₃.set hs₄
    refine wpAny_bind (wpAny_holding (wpAny_assign_Name (wpAny_storeName_local hxv F₄.ns (fun h₅ hn₅ hs₅ => wpAny_pure ?_) hp)))
    have F₅ := F₄.set hn₅ hs₅
    have N₅ := N₄.set hs₅
    have N₂ : News h₀ env.locals h₅ (news₁ ++ own.filter fun p => decide (p.1 ≠ l)) := fun p hp => N₅ p ((List.mem_append.mp hp).elim (fun h => List.mem_append.mpr (.inr h)) fun h => List.mem_append.mpr (.inl (List.mem_filter.mp h).1))
    refine wpAny_mono (turn i ns[i] t tx m₁ news₁ h₅ _ _ (by simp [hlt']) hadr hsep hJ F₅ N₂) (fun f s₂ p => ?_) fun _ _ e => e
    have fin : ∀ tk₅ s₂, InvEndN h₀ env.locals (J (i + 1)) (own.filter fun p => decide (p.1 ≠ l)) (news.map (·.1)) { s with heap := h₅, toks := tk₅ } s₂ → LoopStepU h₀ env.locals [s.heap.objs.size + 1, s.heap.objs.size] own (J' (i + 1)) { s with heap := h₁, toks := tk₁ } .next s₂ := by
      rintro tk₅ s₂ ⟨h', tk, m', news', nx, e, F', N', hn, ho, ha, hm'⟩
      refine ⟨rfl, h', tk, m', nx, e, F', fun p hp => ?_, fun p hp hq => ?_, ha, hm'⟩
      · rcases List.mem_append.mp hp with hp | hp
        · by_cases hpl : p.1 = l
          · have h6 := N' _ (hn _ (hkeep _ _ _ hm'))
            have h7 : h₁.get? l = some (listOf vs.toArray n) := by
              have := (N₁ _ (List.mem_append_right own (hkeep _ _ _ hJ))).1
              exact this
            have h8 := hget p hp
            rw [hpl, h7] at h8
            obtain ⟨pa, po⟩ := p
            cases hpl
            cases h8
            exact h6
          · exact N' p (ho p (List.mem_filter.mpr ⟨hp, decide_eq_true hpl⟩))
        · exact N' p (hn p hp)
      · have h1 : p.1 ∈ nx.map (·.1) := List.mem_map.mpr ⟨p, hp, rfl⟩
        rw [ha, ← hadr] at h1
        obtain ⟨q, hq1, hq2⟩ := List.mem_map.mp h1
        exact hoff q hq1 (by rw [hq2]; exact hq)
    cases f with
    | ret v => exact p
    | brk => exact p
    | next => exact fin _ _ p
    | cont => exact fin _ _ p
  · rintro h' tk m' news' F' N' _ ⟨_, hJ⟩
    exact done m' news' h' tk hJ F' N'
end

section
open PySem.Calls PyProof.V PySem.Spec
variable {prog : Program} {w : World} {A : Around} {E : Value → Shared → Prop} {s : Shared} {env : Env} {h₀ : Heap} {body : List Stmt} {Q : Flow → Shared → Prop}

noncomputable def EnS {σ : Type} (Led : σ → List (Addr × Obj)) (ps : σ → List (Str × Value)) (stored : List Str) (m₀ : Str → Option Value) (P : Nat → σ → Prop) (i : Nat) (m : Str → Option Value) (nx : List (Addr × Obj)) : Prop :=
  ∃ c : σ, nx = Led c ∧ P i c ∧ (∀ p ∈ ps c, m p.1 = some p.2) ∧ (∀ z, stored.contains z = false → m z = m₀ z)
theorem en_fr {h : Heap} {L : Addr} {ps : List (Str × Value)} {stored : List Str} {m₀ m₁ : Str → Option Value} (h1 : ∀ p ∈ ps, m₁ p.1 = some p.2) (h2 : ∀ z, stored.contains z = false → m₁ z = m₀ z) :
    m₁ = kstB (fun z => if stored.contains z then m₁ z else m₀ z) ps := by
  funext y
  refine (kstB_eq h1 fun _ => ?_).symm
  show (if stored.contains y = true then m₁ y else m₀ y) = m₁ y
  cases h3 : stored.contains y with
  | true => simp
  | false => simp only [Bool.false_eq_true, if_false]; exact (h2 y h3).symm
theorem en_end {σ : Type} {Led : σ → List (Addr × Obj)} {ps : σ → List (Str × Value)} {stored : List Str} {m₀ : Str → Option Value} {P : Nat → σ → Prop} {i : Nat} {L : Addr} {own news' : List (Addr × Obj)} {adr : List Addr} {s₁ : Shared} {h' : Heap} {tk : Nat} {m' : Str → Option Value} (c : σ)
    (F : Fr h₀ L h' m') (N : News h₀ L h' news') (hn : ∀ p ∈ Led c, p ∈ news') (ho : ∀ p ∈ own, p ∈ news') (ha : (Led c).map (·.1) = adr) (hp : P i c) (hk : ∀ p ∈ ps c, m' p.1 = some p.2) (hr : ∀ z, stored.contains z = false → m' z = m₀ z) :
    InvEndN h₀ L (EnS Led ps stored m₀ P i) own adr s₁ { s₁ with heap := h', toks := tk } :=
  InvEndN.intro F N ⟨c, rfl, hp, hk, hr⟩ ha hn ho

theorem enum_st {σ : Type} {xi xv : Str} {pi pv pt : Pos} {k1 : Nat} {l : Addr} {vs : List Value} {ns : List Int} {n : Nat} {m₀ : Str → Option Value} (Led : σ → List (Addr × Obj)) (ps : σ → List (Str × Value)) (stored : List Str) (P : Nat → σ → Prop) (c₀ : σ)
    (hh : A.handled = none) (hxi : env.kindOf xi = some .local) (hxv : env.kindOf xv = some .local)
    (hp : (env.scope.kind == .class || (env.scope.kind == .module && env.locals != env.globals)) = false)
    (hm : ∀ c, (l, listOf vs.toArray n) ∈ Led c) (hi : IntsAre vs ns) (F : Fr h₀ env.locals s.heap m₀) (N : News h₀ env.locals s.heap (Led c₀)) (hj : P 0 c₀) (hk : ∀ p ∈ ps c₀, m₀ p.1 = some p.2)
    (turn : ∀ c i x ti tx (u : Str → Option Value) h tk own, ns[i]? = some x → OwnOff own ((Led c₀).map (·.1)) → P i c →
      Fr h₀ env.locals h (fun y => if y = xv then some (.int x tx) else if y = xi then some (.int (i : Nat) ti) else kstB (fun z => if stored.contains z then u z else m₀ z) (ps c) y) → News h₀ env.locals h (Led c ++ own) →
      wpAny (model prog w) A (execs body env) (InvPostN h₀ env.locals (EnS Led ps stored m₀ P (i + 1)) own ((Led c₀).map (·.1)) { s with heap := h, toks := tk } Q) E { s with heap := h, toks := tk })
    (done : ∀ c (u : Str → Option Value) h tk, P ns.length c → Fr h₀ env.locals h (kstB (fun z => if stored.contains z then u z else m₀ z) (ps c)) → News h₀ env.locals h (Led c) → Q .next { s with heap := h, toks := tk }) :
    wpAny (model prog w) A (call (.type "enumerate") [.ref l]) (fun xv' s₁ => wpAny (model prog w) A (pyIter xv') (fun it s₂ => TurnsAt prog w A h₀ env (.Tuple [.Name xi pi, .Name xv pv] k1 pt) body Q E it s₂) E s₁) E s := by
  refine enum_invN (fun i m nx => EnS Led ps stored m₀ P i m nx) hh hxi hxv hp (hm c₀) hi F N ⟨c₀, rfl, hj, hk, fun _ _ => rfl⟩ (fun i m nx => ?_) ?_ ?_
  · rintro ⟨c, rfl, _⟩
    exact hm c
  · rintro i x ti tx m₁ nx h tk own hx _ hoff ⟨c, rfl, hpc, h1, h2⟩ F₁ N₁
    rw [en_fr (h := h) (L := env.locals) h1 h2] at F₁
    exact turn c i x ti tx m₁ h tk own hx hoff hpc F₁ N₁
  · rintro m₁ nx h tk ⟨c, rfl, hpc, h1, h2⟩ F₁ N₁
    rw [en_fr (h := h) (L := env.locals) h1 h2] at F₁
    exact done c m₁ h tk hpc F₁ N₁
end

/-- one list of ints on top of the ledger, turned by the loop -/
noncomputable def Led0 (D : Addr) (rest : List (Addr × Obj)) (c : List Value × List Int × Nat) : List (Addr × Obj) := (D, listOf (List.toArray c.1) c.2.2) :: rest
noncomputable def Pr0 (P : Nat → List Int → Prop) (i : Nat) (c : List Value × List Int × Nat) : Prop := IntsAre c.1 c.2.1 ∧ P i c.2.1
noncomputable def Ps0 (_ : List Value × List Int × Nat) : List (Str × Value) := []
/-- and one int name beside it -/
noncomputable def Led1 (D : Addr) (rest : List (Addr × Obj)) (c : (List Value × List Int × Nat) × Int × Tok) : List (Addr × Obj) := (D, listOf (List.toArray c.1.1) c.1.2.2) :: rest
noncomputable def Pr1 (P : Nat → List Int → Int → Prop) (i : Nat) (c : (List Value × List Int × Nat) × Int × Tok) : Prop := IntsAre c.1.1 c.1.2.1 ∧ P i c.1.2.1 c.2.1
noncomputable def Ps1 (y : Str) (c : (List Value × List Int × Nat) × Int × Tok) : List (Str × Value) := [(y, .int c.2.1 c.2.2)]
section
open PySem.Calls PyProof.V PySem.Spec
variable {prog : Program} {w : World} {A : Around} {E : Value → Shared → Prop} {s : Shared} {env : Env} {h₀ : Heap} {body : List Stmt} {Q : Flow → Shared → Prop}

theorem en_end0 {D : Addr} {rest : List (Addr × Obj)} {stored : List Str} {m₀ : Str → Option Value} {P : Nat → List Int → Prop} {i : Nat} {L : Addr} {own news' : List (Addr × Obj)} {s₁ : Shared} {h' : Heap} {tk : Nat} {m' : Str → Option Value} {its : List Value} {fs : List Int} {n : Nat}
    (F : Fr h₀ L h' m') (N : News h₀ L h' news') (hn : (D, listOf its.toArray n) ∈ news') (hs : ∀ p ∈ rest ++ own, p ∈ news') (hi : IntsAre its fs) (hp : P i fs) (hr : ∀ z, stored.contains z = false → m' z = m₀ z) :
    InvEndN h₀ L (EnS (Led0 D rest) Ps0 stored m₀ (Pr0 P) i) own (D :: rest.map (·.1)) s₁ { s₁ with heap := h', toks := tk } :=
  en_end (its, fs, n) F N (fun p hp => by
    rcases List.mem_cons.mp hp with rfl | hp
    · exact hn
    · exact hs p (List.mem_append_left _ hp)) (fun p hp => hs p (List.mem_append_right _ hp)) rfl ⟨hi, hp⟩ (fun _ h => nomatch h) hr
theorem en_end1 {D : Addr} {rest : List (Addr × Obj)} {y : Str} {stored : List Str} {m₀ : Str → Option Value} {P : Nat → List Int → Int → Prop} {i : Nat} {L : Addr} {own news' : List (Addr × Obj)} {s₁ : Shared} {h' : Heap} {tk : Nat} {m' : Str → Option Value} {its : List Value} {fs : List Int} {n : Nat} {c : Int} {t : Tok}
    (F : Fr h₀ L h' m') (N : News h₀ L h' news') (hn : (D, listOf its.toArray n) ∈ news') (hs : ∀ p ∈ rest ++ own, p ∈ news') (hi : IntsAre its fs) (hp : P i fs c) (hy : m' y = some (.int c t)) (hr : ∀ z, stored.contains z = false → m' z = m₀ z) :
    InvEndN h₀ L (EnS (Led1 D rest) (Ps1 y) stored m₀ (Pr1 P) i) own (D :: rest.map (·.1)) s₁ { s₁ with heap := h', toks := tk } :=
  en_end ((its, fs, n), c, t) F N (fun p hp => by
    rcases List.mem_cons.mp hp with rfl | hp
    · exact hn
    · exact hs p (List.mem_append_left _ hp)) (fun p hp => hs p (List.mem_append_right _ hp)) rfl ⟨hi, hp⟩ (fun p h => by
    rw [List.mem_singleton.mp h]; exact hy) hr
theorem app_sub {α : Type} {a : α} {l r : List α} : ∀ p ∈ (a :: l) ++ r, p ∈ a :: (l ++ r) := fun _ h => h
theorem app_ne {D : Addr} {rest own : List (Addr × Obj)} (h : ∀ p ∈ rest, p.1 ≠ D) (o : OwnOff own (D :: rest.map (·.1))) : ∀ p ∈ rest ++ own, p.1 ≠ D := fun p hp => by
  rcases List.mem_append.mp hp with hp | hp
  · exact h p hp
  · exact o p hp D (.head _)

theorem enum_0 {xi xv : Str} {pi pv pt : Pos} {k1 : Nat} {l : Addr} {vs : List Value} {ns : List Int} {n : Nat} {m₀ : Str → Option Value} {D : Addr} {rest : List (Addr × Obj)} {its0 : List Value} {fs0 : List Int} {n0 : Nat} (stored : List Str) (P : Nat → List Int → Prop)
    {L : Addr} (hL : env.locals = L) (hh : A.handled = none) (hxi : env.kindOf xi = some .local) (hxv : env.kindOf xv = some .local)
    (hp : (env.scope.kind == .class || (env.scope.kind == .module && env.locals != env.globals)) = false)
    (hm : (l, listOf vs.toArray n) ∈ rest) (hi : IntsAre vs ns) (F : Fr h₀ L s.heap m₀) (N : News h₀ L s.heap ((D, listOf its0.toArray n0) :: rest)) (hD : ∀ p ∈ rest, p.1 ≠ D) (hi0 : IntsAre its0 fs0) (hj : P 0 fs0)
    (turn : ∀ its fs k i x ti tx (u : Str → Option Value) h tk own, ns[i]? = some x → OwnOff own (D :: rest.map (·.1)) → (∀ p ∈ rest ++ own, p.1 ≠ D) → IntsAre its fs → P i fs →
      Fr h₀ L h (fun y => if y = xv then some (.int x tx) else if y = xi then some (.int (i : Nat) ti) else if stored.contains y then u y else m₀ y) → News h₀ L h ((D, listOf its.toArray k) :: (rest ++ own)) →
      wpAny (model prog w) A (execs body env) (InvPostN h₀ L (EnS (Led0 D rest) Ps0 stored m₀ (Pr0 P) (i + 1)) own (D :: rest.map (·.1)) { s with heap := h, toks := tk } Q) E { s with heap := h, toks := tk })
    (done : ∀ its fs k (u : Str → Option Value) h tk, IntsAre its fs → P ns.length fs → Fr h₀ L h (fun z => if stored.contains z then u z else m₀ z) → News h₀ L h ((D, listOf its.toArray k) :: rest) → Q .next { s with heap := h, toks := tk }) :
    wpAny (model prog w) A (call (.type "enumerate") [.ref l]) (fun xv' s₁ => wpAny (model prog w) A (pyIter xv') (fun it s₂ => TurnsAt prog w A h₀ env (.Tuple [.Name xi pi, .Name xv pv] k1 pt) body Q E it s₂) E s₁) E s := by
  subst hL
  exact enum_st (Led0 D rest) Ps0 stored (Pr0 P) (its0, fs0, n0) hh hxi hxv hp (fun _ => .tail _ hm) hi F N ⟨hi0, hj⟩ (fun _ h => nomatch h)
    (fun c i x ti tx u h tk own hx ho hc F' N' => turn c.1 c.2.1 c.2.2 i x ti tx u h tk own hx ho (app_ne hD ho) hc.1 hc.2 F' N')
    (fun c u h tk hc F' N' => done c.1 c.2.1 c.2.2 u h tk hc.1 hc.2 F' N')
theorem enum_1 {xi xv : Str} {pi pv pt : Pos} {k1 : Nat} {l : Addr} {vs : List Value} {ns : List Int} {n : Nat} {m₀ : Str → Option Value} {D : Addr} {rest : List (Addr × Obj)} {its0 : List Value} {fs0 : List Int} {n0 : Nat} {c0 : Int} {t0 : Tok} (y : Str) (stored : List Str) (P : Nat → List Int → Int → Prop)
    {L : Addr} (hL : env.locals = L) (hh : A.handled = none) (hxi : env.kindOf xi = some .local) (hxv : env.kindOf xv = some .local)
    (hp : (env.scope.kind == .class || (env.scope.kind == .module && env.locals != env.globals)) = false)
    (hm : (l, listOf vs.toArray n) ∈ rest) (hi : IntsAre vs ns) (F : Fr h₀ L s.heap m₀) (N : News h₀ L s.heap ((D, listOf its0.toArray n0) :: rest)) (hD : ∀ p ∈ rest, p.1 ≠ D) (hi0 : IntsAre its0 fs0) (hy : m₀ y = some (.int c0 t0)) (hj : P 0 fs0 c0)
    (turn : ∀ its fs k c t i x ti tx (u : Str → Option Value) h tk own, ns[i]? = some x → OwnOff own (D :: rest.map (·.1)) → (∀ p ∈ rest ++ own, p.1 ≠ D) → IntsAre its fs → P i fs c →
      Fr h₀ L h (fun z => if z = xv then some (.int x tx) else if z = xi then some (.int (i : Nat) ti) else if z = y then some (.int c t) else if stored.contains z then u z else m₀ z) → News h₀ L h ((D, listOf its.toArray k) :: (rest ++ own)) →
      wpAny (model prog w) A (execs body env) (InvPostN h₀ L (EnS (Led1 D rest) (Ps1 y) stored m₀ (Pr1 P) (i + 1)) own (D :: rest.map (·.1)) { s with heap := h, toks := tk } Q) E { s with heap := h, toks := tk })
    (done : ∀ its fs k c t (u : Str → Option Value) h tk, IntsAre its fs → P ns.length fs c → Fr h₀ L h (fun z => if z = y then some (.int c t) else if stored.contains z then u z else m₀ z) → News h₀ L h ((D, listOf its.toArray k) :: rest) → Q .next { s with heap := h, toks := tk }) :
    wpAny (model prog w) A (call (.type "enumerate") [.ref l]) (fun xv' s₁ => wpAny (model prog w) A (pyIter xv') (fun it s₂ => TurnsAt prog w A h₀ env (.Tuple [.Name xi pi, .Name xv pv] k1 pt) body Q E it s₂) E s₁) E s := by
  subst hL
  exact enum_st (Led1 D rest) (Ps1 y) stored (Pr1 P) ((its0, fs0, n0), c0, t0) hh hxi hxv hp (fun _ => .tail _ hm) hi F N ⟨hi0, hj⟩ (fun p h => by
    rw [List.mem_singleton.mp h]; exact hy)
    (fun c i x ti tx u h tk own hx ho hc F' N' => turn c.1.1 c.1.2.1 c.1.2.2 c.2.1 c.2.2 i x ti tx u h tk own hx ho (app_ne hD ho) hc.1 hc.2 F' N')
    (fun c u h tk hc F' N' => done c.1.1 c.1.2.1 c.1.2.2 c.2.1 c.2.2 u h tk hc.1 hc.2 F' N')
end

end EnumP
section NormP
noncomputable def stripZ : List Int → List Int
  | [] => []
  | a :: r => match stripZ r with
    | [] => if a = 0 then [] else [a]
    | b :: q => a :: b :: q
theorem stripZ_snoc0 : ∀ l : List Int, stripZ (l ++ [0]) = stripZ l
  | [] => rfl
  | a :: r => by
    show (match stripZ (r ++ [0]) with | [] => if a = 0 then [] else [a] | b :: q => a :: b :: q) = _
    rw [stripZ_snoc0 r]; rfl
theorem stripZ_snoc : ∀ (l : List Int) {x : Int}, x ≠ 0 → stripZ (l ++ [x]) = l ++ [x]
  | [], x, h => by simp [stripZ, h]
  | a :: r, x, h => by
    show (match stripZ (r ++ [x]) with | [] => if a = 0 then [] else [a] | b :: q => a :: b :: q) = _
    rw [stripZ_snoc r h]
    cases r <;> rfl
noncomputable def NormInv (xs : List Int) (e : Int) : Prop := stripZ (xs.take e.toNat) = stripZ xs
theorem take_snoc {xs : List Int} {e : Int} (h : 0 < e) (h2 : e ≤ (xs.length : Int)) : xs.take e.toNat = xs.take (e - 1).toNat ++ [xs.getD (e - 1).toNat 0] := by
  have e1 : e.toNat = (e - 1).toNat + 1 := by omega
  rw [e1, List.take_add_one]
  have : (e - 1).toNat < xs.length := by omega
  rw [List.getElem?_eq_getElem this, List.getD_eq_getElem?_getD, List.getElem?_eq_getElem this]
  rfl
theorem normInv_turn {xs : List Int} {e : Int} (h : NormInv xs e) (h0 : 0 < e) (h2 : e ≤ (xs.length : Int)) (h3 : xs.getD (e - 1).toNat 0 = 0) : 0 ≤ e - 1 ∧ e - 1 ≤ (xs.length : Int) ∧ NormInv xs (e - 1) := by
  refine ⟨by omega, by omega, ?_⟩
  unfold NormInv at *
  rw [← h, take_snoc h0 h2, h3, stripZ_snoc0]
theorem normInv_end0 {xs : List Int} {e : Int} (h : NormInv xs e) (h0 : ¬ 0 < e) : xs.take e.toNat = stripZ xs := by
  unfold NormInv at h
  rw [show e.toNat = 0 by omega] at *
  rw [← h]; rfl
theorem normInv_end {xs : List Int} {e : Int} (h : NormInv xs e) (h0 : 0 < e) (h2 : e ≤ (xs.length : Int)) (h3 : ¬ xs.getD (e - 1).toNat 0 = 0) : xs.take e.toNat = stripZ xs := by
  unfold NormInv at h
  rw [← h, take_snoc h0 h2, stripZ_snoc _ h3]
set_option maxRecDepth 100000 in
set_option maxHeartbeats 8000000 in
theorem normal_con (w : World) (mean : ExcName → Option Value) (mg mb : Str → Option Value) (news : List (Addr × Obj)) (la : Addr) (its : List Value) (na : Nat) (xs : List Int) (hm : (la, listOf its.toArray na) ∈ news) (hi : IntsAre its xs) (hlen : (xs.length : Int) ≤ 1000) :
    Con w mean mg mb 46 1 news [.ref la] (RList news (stripZ xs)) := by
  unfold Con
  k_fill
  w_top off
  k_with_none
  k_with "call builtin:len" => (k_here; (with_reducible show wpAny _ _ (call (Value.builtin "len") [Value.ref _]) _ _ _); k_dflt (refine' kst_len ?k1W9 ?k2W9 ?k3W9 ?k4W9 ?_; (case k1W9 => k_asm); (case k2W9 => k_mem); (case k3W9 => exact IntsAre.length (by assumption)); (case k4W9 => omega); k_whole))
  k_with "state" => (first | exact ⟨by omega, by omega, by rw [NormInv, Int.toNat_natCast, List.take_length]⟩ | exact normInv_turn (by assumption) (by assumption) (by assumption) (by assumption))
  k_with "measure" => omega
  k_with "exec While BoolOp cons nil" => k_while (fun _ e => 0 ≤ e ∧ e ≤ (xs.length : Int) ∧ NormInv xs e) (fun _ e => e.toNat) "end"
  intro dp un gd cn cs a ccd cl outer A₀ base h₀ L m s Q E B F X N T hk hd hu hret
  refine wpAny_call ?_
  k_dflt ktr_enter
  k_steps
  · exact ret_list hret (by assumption) (by assumption) (by k_mem) (fun _ h => .tail _ h) (by assumption) (by assumption) (normInv_end (by assumption) (by assumption) (by assumption) (by assumption))
  · exact ret_list hret (by assumption) (by assumption) (by k_mem) (fun _ h => .tail _ h) (by assumption) (by assumption) (normInv_end0 (by assumption) (by assumption))

end NormP
section ValP
/-- a row's value to the base W -/
noncomputable def val (W : Int) : List Int → Int
  | [] => 0
  | a :: r => a + W * val W r
noncomputable def Good (W : Int) (l : List Int) : Prop := ∀ a ∈ l, 0 ≤ a ∧ a < W
theorem good_nil {W : Int} : Good W [] := fun _ h => nomatch h
theorem good_cons {W a : Int} {l : List Int} : Good W (a :: l) ↔ (0 ≤ a ∧ a < W) ∧ Good W l := by
  simp [Good, List.forall_mem_cons]
theorem val_nonneg {W : Int} (hW : 0 ≤ W) : ∀ {l : List Int}, Good W l → 0 ≤ val W l
  | [], _ => Int.le_refl _
  | a :: r, h => by
    have h := good_cons.mp h
    have := Int.mul_nonneg hW (val_nonneg hW h.2)
    show 0 ≤ a + W * val W r
    omega
theorem val_set {W : Int} : ∀ (l : List Int) (k : Nat) (x : Int), k < l.length → val W (l.set k x) = val W l + (x - l.getD k 0) * W ^ k
  | [], _, _, h => absurd h (Nat.not_lt_zero _)
  | a :: r, 0, x, _ => by
    show x + W * val W r = a + W * val W r + (x - a) * W ^ 0
    rw [Int.pow_zero]
    omega
  | a :: r, k + 1, x, h => by
    have ih := val_set (W := W) r k x (Nat.lt_of_succ_lt_succ h)
    show a + W * val W (r.set k x) = a + W * val W r + (x - r.getD k 0) * W ^ (k + 1)
    rw [ih, Int.mul_add, Int.pow_succ]
    have : W * ((x - r.getD k 0) * W ^ k) = (x - r.getD k 0) * (W ^ k * W) := by
      rw [Int.mul_comm W, Int.mul_assoc]
    omega
theorem val_snoc {W : Int} (x : Int) : ∀ l : List Int, val W (l ++ [x]) = val W l + x * W ^ l.length
  | [] => by simp [val]
  | a :: r => by
    show a + W * val W (r ++ [x]) = a + W * val W r + x * W ^ (r.length + 1)
    rw [val_snoc x r, Int.mul_add, Int.pow_succ]
    have : W * (x * W ^ r.length) = x * (W ^ r.length * W) := by
      rw [Int.mul_comm W, Int.mul_assoc]
    omega
theorem good_set {W : Int} {l : List Int} {k : Nat} {x : Int} (h : Good W l) (hx : 0 ≤ x ∧ x < W) : Good W (l.set k x) := by
  intro a ha
  rcases List.mem_or_eq_of_mem_set ha with h1 | h1
  · exact h a h1
  · rw [h1]; exact hx
theorem good_getD {W : Int} (hW : 0 < W) {l : List Int} (h : Good W l) (k : Nat) : 0 ≤ l.getD k 0 ∧ l.getD k 0 < W := by
  rw [List.getD_eq_getElem?_getD]
  cases e : l[k]? with
  | none => exact ⟨Int.le_refl _, hW⟩
  | some a => exact h a (List.mem_of_getElem? e)
theorem val_dig {W : Nat} (hW : 2 ≤ W) : ∀ n : Nat, val W (dig W n) = n := by
  intro n
  induction n using Nat.strongRecOn with
  | _ n ih =>
    by_cases hn : n = 0
    · rw [hn, dig_zero]; rfl
    · rw [dig_pos (by omega) hW]
      show ((n % W : Nat) : Int) + W * val W (dig W (n / W)) = n
      rw [ih (n / W) (Nat.div_lt_self (by omega) (by omega))]
      have := Nat.mod_add_div n W
      calc ((n % W : Nat) : Int) + (W : Int) * ((n / W : Nat) : Int) = ((n % W + W * (n / W) : Nat) : Int) := by push_cast; rfl
        _ = n := by rw [this]
theorem good_dig {W : Nat} (hW : 2 ≤ W) : ∀ n : Nat, Good W (dig W n) := by
  intro n
  induction n using Nat.strongRecOn with
  | _ n ih =>
    by_cases hn : n = 0
    · rw [hn, dig_zero]; exact good_nil
    · rw [dig_pos (by omega) hW, good_cons]
      have := Nat.mod_lt n (show W > 0 by omega)
      exact ⟨⟨Int.natCast_nonneg _, by exact_mod_cast this⟩, ih (n / W) (Nat.div_lt_self (by omega) (by omega))⟩
/-- a row of good limbs, without noughts at its end, is the digits of its value -/
theorem strip_dig {W : Nat} (hW : 2 ≤ W) : ∀ {l : List Int}, Good W l → stripZ l = dig W (val W l).toNat
  | [], _ => by show [] = dig W 0; rw [dig_zero]
  | a :: r, h => by
    have h := good_cons.mp h
    have ih := strip_dig hW h.2
    have hv := val_nonneg (Int.natCast_nonneg W) h.2
    obtain ⟨v, hv'⟩ := Int.eq_ofNat_of_zero_le hv
    obtain ⟨b, rfl⟩ := Int.eq_ofNat_of_zero_le h.1.1
    have hb : b < W := by exact_mod_cast h.1.2
    rw [hv', Int.toNat_natCast] at ih
    show (match stripZ r with | [] => if (b : Int) = 0 then [] else [(b : Int)] | c :: q => (b : Int) :: c :: q) = dig W ((b : Int) + W * val W r).toNat
    rw [hv', ih]
    have e : ((b : Int) + (W : Int) * (v : Int)).toNat = b + W * v := by
      rw [show (b : Int) + (W : Int) * (v : Int) = ((b + W * v : Nat) : Int) by push_cast; rfl, Int.toNat_natCast]
    rw [e]
    by_cases hv0 : v = 0
    · subst hv0
      rw [dig_zero, Nat.mul_zero, Nat.add_zero]
      by_cases hb0 : b = 0
      · subst hb0; rw [dig_zero]; rfl
      · rw [dig_pos (by omega) hW, Nat.mod_eq_of_lt hb, Nat.div_eq_of_lt hb, dig_zero]
        simp [hb0]
    · have hpos : 0 < W * v := Nat.mul_pos (by omega) (by omega)
      rw [dig_pos (n := b + W * v) (by omega) hW, Nat.add_mul_mod_self_left, Nat.mod_eq_of_lt hb, Nat.add_mul_div_left _ _ (by omega), Nat.div_eq_of_lt hb, Nat.zero_add]
      rw [dig_pos (n := v) (by omega) hW]
theorem getD_set_ne {l : List Int} {j k : Nat} {x d : Int} (h : j ≠ k) : (l.set j x).getD k d = l.getD k d := by
  simp [List.getD_eq_getElem?_getD, List.getElem?_set, h]

structure MInv (B : Int) (nx : Nat) (ys fs0 : List Int) (i : Nat) (x : Int) (j : Nat) (fs : List Int) (c : Int) : Prop where
  len : fs.length = nx + ys.length
  good : Good B fs
  c0 : 0 ≤ c
  c1 : c < B
  value : val B fs + c * B ^ (i + j) = val B fs0 + x * val B (ys.take j) * B ^ i
  zero : ∀ k, i + ys.length ≤ k → fs.getD k 0 = 0
structure OInv (B : Int) (xs ys : List Int) (i : Nat) (fs : List Int) : Prop where
  len : fs.length = xs.length + ys.length
  good : Good B fs
  value : val B fs = val B (xs.take i) * val B ys
  zero : ∀ k, i + ys.length ≤ k → fs.getD k 0 = 0
theorem take_snoc' {α : Type} {l : List α} {i : Nat} {x : α} (h : l[i]? = some x) : l.take (i + 1) = l.take i ++ [x] := by
  simp [List.take_add_one, h]
theorem take_len {α : Type} {l : List α} {i : Nat} {x : α} (h : l[i]? = some x) : (l.take i).length = i := by
  have : i < l.length := (List.getElem?_eq_some_iff.mp h).1
  rw [List.length_take]; omega
theorem mInv_start {B : Int} (hB : 2 ≤ B) {xs ys fs0 : List Int} {i : Nat} {x : Int} (h : OInv B xs ys i fs0) : MInv B xs.length ys fs0 i x 0 fs0 0 := by
  refine ⟨h.len, h.good, Int.le_refl _, by omega, ?_, h.zero⟩
  simp [val]
theorem mInv_turn {B : Int} (hB : 2 ≤ B) {nx : Nat} {ys fs0 fs : List Int} {i j : Nat} {x y c s q r : Int} (h : MInv B nx ys fs0 i x j fs c) (hx0 : 0 ≤ x) (hx1 : x < B) (hy0 : 0 ≤ y) (hy1 : y < B)
    (hj : ys[j]? = some y) (hi : i < nx) (hs : s = c + (fs.getD (i + j) 0 + x * y)) (hq : q = Int.fdiv s B) (hr : r = Int.fmod s B) :
    MInv B nx ys fs0 i x (j + 1) (fs.set (i + j) r) q := by
  have hjl : j < ys.length := (List.getElem?_eq_some_iff.mp hj).1
  have hlen := h.len
  have g := good_getD (by omega) h.good (i + j)
  have xy0 := Int.mul_nonneg hx0 hy0
  have xy1 : x * y ≤ (B - 1) * (B - 1) := Int.mul_le_mul (by omega) (by omega) hy0 (by omega)
  have hc0 := h.c0
  have hc1 := h.c1
  have hs0 : 0 ≤ s := by omega
  have hsB : s < B * B := by
    have e : (B - 1) * (B - 1) = B * B - B - B + 1 := by
      rw [Int.sub_mul, Int.mul_sub]; omega
    omega
  have hdm : B * Int.fdiv s B + Int.fmod s B = s := Int.mul_fdiv_add_fmod s B
  have hr0 : 0 ≤ r ∧ r < B := by
    rw [hr, Int.fmod_eq_emod_of_nonneg _ (by omega)]
    exact ⟨Int.emod_nonneg _ (by omega), Int.emod_lt_of_pos _ (by omega)⟩
  have hq0 : 0 ≤ q := by rw [hq]; exact fdiv_nonneg' hs0 (by omega)
  have hq1 : q < B := by
    rw [hq, Int.fdiv_eq_ediv_of_nonneg _ (by omega)]
    exact Int.ediv_lt_of_lt_mul (by omega) hsB
  refine ⟨by rw [List.length_set]; exact hlen, good_set h.good hr0, hq0, hq1, ?_, fun k hk => ?_⟩
  · rw [val_set _ _ _ (by omega), take_snoc' hj, val_snoc, take_len hj]
    have v := h.value
    rw [← hq, ← hr] at hdm
    have e1 : q * B ^ (i + (j + 1)) = B * q * B ^ (i + j) := by
      rw [show i + (j + 1) = (i + j) + 1 by omega, Int.pow_succ, Int.mul_comm B q, Int.mul_assoc, Int.mul_comm B (B ^ (i + j))]
    have e2 : x * (val B (ys.take j) + y * B ^ j) * B ^ i = x * val B (ys.take j) * B ^ i + x * y * B ^ (i + j) := by
      rw [Int.mul_add, Int.add_mul, Int.pow_add, ← Int.mul_assoc x y, Int.mul_assoc (x * y), Int.mul_comm (B ^ j)]
    have e3 : (r - fs.getD (i + j) 0) * B ^ (i + j) + B * q * B ^ (i + j) = c * B ^ (i + j) + x * y * B ^ (i + j) := by
      rw [← Int.add_mul, ← Int.add_mul]
      congr 1
      omega
    rw [e1, e2]
    omega
  · rw [getD_set_ne (by omega)]
    exact h.zero k hk
theorem oInv_turn {B : Int} {xs ys fs0 fs : List Int} {i : Nat} {x c : Int} (o : OInv B xs ys i fs0) (h : MInv B xs.length ys fs0 i x ys.length fs c) (hi : xs[i]? = some x) :
    OInv B xs ys (i + 1) (fs.set (i + ys.length) c) := by
  have hil : i < xs.length := (List.getElem?_eq_some_iff.mp hi).1
  have hlen := h.len
  refine ⟨by rw [List.length_set]; exact hlen, good_set h.good ⟨h.c0, h.c1⟩, ?_, fun k hk => ?_⟩
  · rw [val_set _ _ _ (by omega), h.zero _ (Nat.le_refl _), take_snoc' hi, val_snoc, take_len hi]
    have v := h.value
    rw [List.take_length, o.value] at v
    have e : (val B (xs.take i) + x * B ^ i) * val B ys = val B (xs.take i) * val B ys + x * val B ys * B ^ i := by
      rw [Int.add_mul, Int.mul_assoc x, Int.mul_comm (B ^ i), ← Int.mul_assoc]
    rw [e, ← v, Int.sub_zero]
  · rw [getD_set_ne (by omega)]
    exact h.zero k (by omega)
theorem val_zeros {B : Int} : ∀ n : Nat, val B (List.replicate n (0 : Int)) = 0
  | 0 => rfl
  | n + 1 => by
    show (0 : Int) + B * val B (List.replicate n (0 : Int)) = 0
    rw [val_zeros n]; simp
theorem oInv_start {B : Int} (hB : 2 ≤ B) {xs ys fs : List Int} (h : fs = List.replicate (xs.length + ys.length) 0) : OInv B xs ys 0 fs := by
  subst h
  refine ⟨List.length_replicate, fun a ha => ?_, ?_, fun k _ => ?_⟩
  · rw [List.eq_of_mem_replicate ha]; omega
  · rw [val_zeros]; simp [val]
  · rw [List.getD_eq_getElem?_getD]
    cases e : (List.replicate (xs.length + ys.length) (0 : Int))[k]? with
    | none => rfl
    | some a => exact List.eq_of_mem_replicate (List.mem_of_getElem? e)
theorem oInv_end {W : Nat} (hW : 2 ≤ W) {xs ys fs : List Int} (h : OInv W xs ys xs.length fs) : stripZ fs = dig W (val W xs * val W ys).toNat := by
  rw [strip_dig hW h.good, h.value, List.take_length]

end ValP
section MulP
theorem flat_rep {α : Type} (a : α) : ∀ n : Nat, (List.replicate n [a]).flatten = List.replicate n a
  | 0 => rfl
  | n + 1 => by
    show a :: (List.replicate n [a]).flatten = a :: List.replicate n a
    rw [flat_rep a n]
theorem pow_le512 {W : Int} (h3 : W ≤ 9) : (2 : Int) ^ W.toNat ≤ 512 := by
  have : (2 : Nat) ^ W.toNat ≤ 2 ^ 9 := Nat.pow_le_pow_right (by decide) (by omega)
  rw [← kbt_cast]
  omega
theorem pow_ge8 {W : Int} (h3 : 3 ≤ W) : 8 ≤ (2 : Int) ^ W.toNat := by
  have : (2 : Nat) ^ 3 ≤ 2 ^ W.toNat := Nat.pow_le_pow_right (by decide) (by omega)
  rw [← kbt_cast]
  omega
set_option maxRecDepth 100000 in
set_option maxHeartbeats 8000000 in
theorem mul_con (w : World) (mean : ExcName → Option Value) (mg mb : Str → Option Value) (news : List (Addr × Obj)) (la lb : Addr) (ia ib : List Value) (na nb : Nat) (xs ys : List Int) (W : Int) (tw : Tok)
    (hma : (la, listOf ia.toArray na) ∈ news) (hia : IntsAre ia xs) (hla : (xs.length : Int) ≤ 200) (hmb : (lb, listOf ib.toArray nb) ∈ news) (hib : IntsAre ib ys) (hlb : (ys.length : Int) ≤ 200) (h2 : 3 ≤ W) (h3 : W ≤ 9)
    (gx : Good (2 ^ W.toNat) xs) (gy : Good (2 ^ W.toNat) ys) :
    Con w mean mg mb 109 3 news [.ref la, .ref lb, .int W tw] (RList news (dig (2 ^ W.toNat) (val (2 ^ W.toNat) xs * val (2 ^ W.toNat) ys).toNat)) := by
  unfold Con
  k_fill
  w_top off
  k_with_none
  k_with "call builtin:len" => (k_here; (with_reducible show wpAny _ _ (call (Value.builtin "len") [Value.ref _]) _ _ _); k_dflt (refine' kst_len ?k1W9 ?k2W9 ?k3W9 ?k4W9 ?_; (case k1W9 => k_asm); (case k2W9 => k_mem); (case k3W9 => exact IntsAre.length (by assumption)); (case k4W9 => omega); k_whole))
  intro dp un gd cn cs a ccd cl outer A₀ base h₀ L m s Q E B F X N T hk hd hu hret
  refine wpAny_call ?_
  k_dflt ktr_enter
  repeat' (first | (k_unfold; (try dsimp only)) | ((fail_if_success (with_reducible show wpAny _ _ (exec (Stmt.For _ _ _ _ _) _) _ _ _)); first | (k_end; wrow_close) | walk1 | (dsimp only; walk1) | (leave1; walk_say "STEP leave1"; try dsimp only) | fail "no step"))
  rename Fr _ _ _ _ => F0
  rename News _ _ _ _ => N0
  rename (_ < _ ∧ _ < _ ∧ _) => hlt0
  rename IntsAre _ _ => hif
  have N1 := kst_newsOf (l' := _ :: news) N0 (fun p hp => by
    rcases List.mem_cons.mp hp with h | h
    · exact h ▸ .tail _ (.head _)
    · exact .tail _ (.tail _ (.tail _ h)))
  clear N0
  have hB0 := pow_le512 h3
  have hB1 := pow_ge8 h2
  rw [flat_rep, flat_rep] at hif
  rw [flat_rep] at N1
  refine For_turns F0 ?_
  repeat' (first | (k_unfold; (try dsimp only)) | ((fail_if_success (with_reducible show wpAny _ _ (call (Value.type "enumerate") _) _ _ _)); first | (k_end; wrow_close) | walk1 | (dsimp only; walk1) | (leave1; walk_say "STEP leave1"; try dsimp only) | fail "no step"))
  refine enum_0 [Str.ofString "at", Str.ofString "limb", Str.ofString "carry", Str.ofString "spot", Str.ofString "other"] (OInv (2 ^ W.toNat) xs ys) (by rfl) rfl rfl rfl rfl hma hia (by assumption) N1 (ne_of_allLt (And.right (by assumption))) hif (oInv_start (by omega) (by congr 1)) ?_ ?_
  · intro its fs k i x ti tx u h tk own hx ho hne hif2 hO F1 N2
    have hxb := gx x (List.mem_of_getElem? hx)
    have hil : i < xs.length := (List.getElem?_eq_some_iff.mp hx).1
    try k_fold
    repeat' (first | (k_unfold; (try dsimp only)) | ((fail_if_success (with_reducible show wpAny _ _ (exec (Stmt.For _ _ _ _ _) _) _ _ _)); first | (k_end; wrow_close) | walk1 | (dsimp only; walk1) | (leave1; walk_say "STEP leave1"; try dsimp only) | fail "no step"))
    rename Fr _ _ _ _ => F2
    rename News _ _ _ _ => N3
    have hmb' : (lb, listOf ib.toArray nb) ∈ news ++ own := List.mem_append_left _ hmb
    refine For_turns F2 ?_
    repeat' (first | (k_unfold; (try dsimp only)) | ((fail_if_success (with_reducible show wpAny _ _ (call (Value.type "enumerate") _) _ _ _)); first | (k_end; wrow_close) | walk1 | (dsimp only; walk1) | (leave1; walk_say "STEP leave1"; try dsimp only) | fail "no step"))
    refine enum_1 (Str.ofString "carry") [Str.ofString "carry", Str.ofString "spot", Str.ofString "other"] (MInv (2 ^ W.toNat) xs.length ys fs i x) (by rfl) rfl rfl rfl rfl hmb' hib (by assumption) N3 hne hif2 rfl (mInv_start (by omega) hO) ?_ ?_
    · intro its' fs' k' c tc j y tj ty u' h' tk' own' hy ho' hne' hif' hM F3 N4
      have hyb := gy y (List.mem_of_getElem? hy)
      have hjl : j < ys.length := (List.getElem?_eq_some_iff.mp hy).1
      have hc0 := hM.c0
      have hc1 := hM.c1
      have hln := hM.len
      try k_fold
      k_steps
      have hidx : ((i : Int) + (j : Int)).toNat = i + j := by omega
      refine en_end1 (by assumption) (by assumption) (by k_mem) (fun _ h9 => .tail _ h9) (by assumption) ?_ (by rfl) ?_
      · rw [hidx]
        exact mInv_turn (by omega) hM hxb.1 hxb.2 hyb.1 hyb.2 hy hil rfl rfl (by rw [Int.one_mul, kbt_maskF])
      · intro z hz
        simp only [List.contains_cons, List.contains_nil, Bool.or_false, Bool.or_eq_false_iff, beq_eq_false_iff_ne, ne_eq] at hz
        simp [hz]
    · intro its' fs' k' c tc u' h' tk' hif' hM F3 N4
      have hln := hM.len
      try k_fold
      k_steps
      have hidx : ((i : Int) + (ys.length : Int)).toNat = i + ys.length := by omega
      refine en_end0 (by assumption) (by assumption) (by k_mem) (fun _ h9 => .tail _ h9) (by assumption) ?_ ?_
      · rw [hidx]
        exact oInv_turn hO hM hx
      · intro z hz
        simp only [List.contains_cons, List.contains_nil, Bool.or_false, Bool.or_eq_false_iff, beq_eq_false_iff_ne, ne_eq] at hz
        simp [hz]
  · intro its fs k u h tk hif2 hO F1 N2
    try k_fold
    repeat' (first | (k_unfold; (try dsimp only)) | ((fail_if_success (with_reducible show wpAny _ _ (call (Value.ref _) _) _ _ _)); first | (k_end; wrow_close) | walk1 | (dsimp only; walk1) | (leave1; walk_say "STEP leave1"; try dsimp only) | fail "no step"))
    have hln := hO.len
    refine con_use (by assumption) (by assumption) (by assumption) (by assumption) (by assumption) (by rfl) (normal_con w mean mg mb _ _ its k fs (.head _) hif2 (by omega)) ?_ ?_ ?_
    · ktr_room
    · ktr_units
    · rintro r nx h9 tk9 F9 N9 ⟨a9, its9, n9, rfl, rfl, hl9, hi9⟩
      k_steps
      have hend := oInv_end (W := 2 ^ W.toNat) (pow_ge2 h2) (by rw [kbt_cast]; exact hO)
      rw [kbt_cast] at hend
      exact ret_list hret (by assumption) (by assumption) (by k_mem) (fun _ h => .tail _ (.tail _ h)) (lt_of_allLt hl9.2) hi9 hend

end MulP
section PowP
theorem mul_dig (w : World) (mean : ExcName → Option Value) (mg mb : Str → Option Value) (news : List (Addr × Obj)) (la lb : Addr) (ia ib : List Value) (na nb : Nat) (F S : Nat) (W : Int) (tw : Tok)
    (hma : (la, listOf ia.toArray na) ∈ news) (hia : IntsAre ia (dig (2 ^ W.toNat) F)) (hmb : (lb, listOf ib.toArray nb) ∈ news) (hib : IntsAre ib (dig (2 ^ W.toNat) S)) (hF : F < 1152921504606846976) (hS : S < 1152921504606846976) (h2 : 3 ≤ W) (h3 : W ≤ 9) :
    Con w mean mg mb 109 3 news [.ref la, .ref lb, .int W tw] (RList news (dig (2 ^ W.toNat) (F * S))) := by
  have hW := pow_ge2 h2
  have lf := dig_len hW 60 F hF
  have ls := dig_len hW 60 S hS
  have gf := good_dig hW F
  have gs := good_dig hW S
  have vf := val_dig hW F
  have vs := val_dig hW S
  rw [kbt_cast] at gf gs vf vs
  have := mul_con w mean mg mb news la lb ia ib na nb _ _ W tw hma hia (by omega) hmb hib (by omega) h2 h3 gf gs
  rw [vf, vs] at this
  have e : ((F : Int) * (S : Int)).toNat = F * S := by
    rw [show (F : Int) * (S : Int) = ((F * S : Nat) : Int) by push_cast; rfl, Int.toNat_natCast]
  rw [e] at this
  exact this

structure PSt where
  fa : Addr
  fi : List Value
  fn : Nat
  F : Nat
  sa : Addr
  si : List Value
  sn : Nat
  S : Nat
  m : Int
  t : Tok
noncomputable def PInv (T F S : Nat) (m : Int) : Prop := 0 ≤ m ∧ m < 1000000 ∧ 1 ≤ F ∧ 1 ≤ S ∧ F * S ^ m.toNat = T
theorem pInv_F {T F S : Nat} {m : Int} (h : PInv T F S m) : F ≤ T := by
  obtain ⟨_, _, hF, hS, e⟩ := h
  rw [← e]
  exact Nat.le_mul_of_pos_right _ (Nat.pow_pos hS)
theorem pInv_S {T F S : Nat} {m : Int} (h : PInv T F S m) (hm : 0 < m) : S ≤ T := by
  obtain ⟨_, _, hF, hS, e⟩ := h
  have h1 : S ^ 1 ≤ S ^ m.toNat := Nat.pow_le_pow_right hS (by omega)
  rw [Nat.pow_one] at h1
  rw [← e]
  exact Nat.le_trans h1 (Nat.le_mul_of_pos_left _ hF)
theorem fdiv2 (m : Int) : Int.fdiv m 2 = m / 2 := Int.fdiv_eq_ediv_of_nonneg _ (by decide)
theorem fmod2 (m : Int) : Int.fmod m 2 = m % 2 := Int.fmod_eq_emod_of_nonneg _ (by decide)
theorem half_odd {m : Int} (h0 : 0 ≤ m) (h : Int.fmod m 2 = 1) : m.toNat = 2 * (Int.fdiv m 2).toNat + 1 := by
  rw [fmod2] at h; rw [fdiv2]; omega
theorem half_even {m : Int} (h0 : 0 ≤ m) (h : ¬ Int.fmod m 2 = 1) : m.toNat = 2 * (Int.fdiv m 2).toNat := by
  rw [fmod2] at h; rw [fdiv2]; omega
theorem sq_pow (S k : Nat) : (S * S) ^ k = S ^ (2 * k) := by rw [Nat.pow_mul, Nat.pow_two]
theorem pInv_odd_sq {T F S : Nat} {m : Int} (h : PInv T F S m) (ho : Int.fmod m 2 = 1) : PInv T (F * S) (S * S) (Int.fdiv m 2) := by
  obtain ⟨h0, h1, hF, hS, e⟩ := h
  refine ⟨by rw [fdiv2]; omega, by rw [fdiv2]; omega, Nat.mul_pos hF hS, Nat.mul_pos hS hS, ?_⟩
  rw [sq_pow, Nat.mul_assoc, ← Nat.pow_succ']; rw [half_odd h0 ho] at e; exact e
theorem pInv_even_sq {T F S : Nat} {m : Int} (h : PInv T F S m) (ho : ¬ Int.fmod m 2 = 1) : PInv T F (S * S) (Int.fdiv m 2) := by
  obtain ⟨h0, h1, hF, hS, e⟩ := h
  refine ⟨by rw [fdiv2]; omega, by rw [fdiv2]; omega, hF, Nat.mul_pos hS hS, ?_⟩
  rw [sq_pow, ← half_even h0 ho]; exact e
theorem pInv_odd_last {T F S : Nat} {m : Int} (h : PInv T F S m) (ho : Int.fmod m 2 = 1) (hl : ¬ 0 < Int.fdiv m 2) : PInv T (F * S) S (Int.fdiv m 2) := by
  obtain ⟨h0, h1, hF, hS, e⟩ := h
  refine ⟨by rw [fdiv2]; omega, by rw [fdiv2]; omega, Nat.mul_pos hF hS, hS, ?_⟩
  have := half_odd h0 ho
  rw [show (Int.fdiv m 2).toNat = 0 by omega] at *
  rw [this] at e
  simpa using e
theorem pInv_even_last {T F S : Nat} {m : Int} (h : PInv T F S m) (ho : ¬ Int.fmod m 2 = 1) (hl : ¬ 0 < Int.fdiv m 2) : PInv T F S (Int.fdiv m 2) := by
  obtain ⟨h0, h1, hF, hS, e⟩ := h
  refine ⟨by rw [fdiv2]; omega, by rw [fdiv2]; omega, hF, hS, ?_⟩
  have := half_even h0 ho
  rw [show (Int.fdiv m 2).toNat = 0 by omega] at *
  rw [this] at e
  simpa using e
theorem pInv_less {m : Int} (h : 0 < m) : (Int.fdiv m 2).toNat < m.toNat := by rw [fdiv2]; omega
theorem pInv_start {b m : Int} (hb : 1 ≤ b) (h0 : 0 ≤ m) (h1 : m < 1000000) : PInv (b.toNat ^ m.toNat) 1 b.toNat m := ⟨h0, h1, Nat.le_refl _, by omega, Nat.one_mul _⟩
theorem led2_sub {x y : Addr × Obj} {l l' : List (Addr × Obj)} (h1 : x ∈ l') (h2 : y ∈ l') (h3 : ∀ p ∈ l, p ∈ l') : ∀ p ∈ x :: y :: l, p ∈ l' := List.forall_mem_cons.mpr ⟨h1, List.forall_mem_cons.mpr ⟨h2, h3⟩⟩
theorem allLt_sub2 {x y : Addr × Obj} {l : List (Addr × Obj)} {a : Addr} (h : AllLt a (x :: y :: l)) : ∀ p ∈ l, p.1 < a := lt_of_allLt h.2.2
theorem pInv_end {T F S : Nat} {m : Int} (h : PInv T F S m) (hm : ¬ 0 < m) : F = T := by
  obtain ⟨h0, h1, hF, hS, e⟩ := h
  rw [show m.toNat = 0 by omega] at e
  simpa using e
theorem dig_one {W : Nat} (hW : 2 ≤ W) : dig W 1 = [1] := by
  rw [dig_pos (by decide) hW, Nat.mod_eq_of_lt (by omega), Nat.div_eq_of_lt (by omega), dig_zero]; rfl
set_option maxRecDepth 100000 in
set_option maxHeartbeats 8000000 in
theorem power_con (w : World) (mean : ExcName → Option Value) (mg mb : Str → Option Value) (news : List (Addr × Obj)) (b0 m0 W : Int) (t1 t2 tw : Tok)
    (hb : 1 ≤ b0) (hm : 0 ≤ m0) (hT : b0.toNat ^ m0.toNat < 1152921504606846976) (hb2 : b0 < 1152921504606846976) (hm2 : m0 < 1000000) (h2 : 3 ≤ W) (h3 : W ≤ 9) :
    Con w mean mg mb 74 6 news [.int b0 t1, .int m0 t2, .int W tw, .ref 109] (RList news (dig (2 ^ W.toNat) (b0.toNat ^ m0.toNat))) := by
  unfold Con
  k_fill
  w_top off
  k_with_none
  k_with "call builtin:len" => (k_here; (with_reducible show wpAny _ _ (call (Value.builtin "len") [Value.ref _]) _ _ _); k_dflt (refine' kst_len ?k1W9 ?k2W9 ?k3W9 ?k4W9 ?_; (case k1W9 => k_asm); (case k2W9 => k_mem); (case k3W9 => exact IntsAre.length (by assumption)); (case k4W9 => omega); k_whole))
  k_with "call ref" => (k_here; (with_reducible show wpAny _ _ (call (Value.ref 109) _) _ _ _); (refine' con_use ?k1W9 ?k2W9 ?k3W9 ?k4W9 ?k5W9 ?kKW9 (mul_dig _ _ _ _ _ _ _ _ _ _ _ _ _ _ _ ?c1W9 ?c2W9 ?c3W9 ?c4W9 ?c5W9 ?c6W9 ?c7W9 ?c8W9) ?kdW9 ?kuW9 ?_); (case k1W9 => k_asm); (case k2W9 => k_asm); (case k3W9 => k_asm); (case k4W9 => k_asm); (case k5W9 => k_asm); (case kKW9 => first | exact rfl | assumption); (case c1W9 => k_mem); (case c2W9 => with_reducible assumption); (case c3W9 => k_mem); (case c4W9 => with_reducible assumption); (case c5W9 => first | with_reducible assumption | omega); (case c6W9 => first | with_reducible assumption | omega); (case c7W9 => omega); (case c8W9 => omega); (case kdW9 => ktr_room); (case kuW9 => ktr_units); (rintro r9 nx9 h9 tk9 F9 N9 ⟨a9, its9, n9, e9, e9', hl9, hi9⟩; subst e9; subst e9'); (try dsimp only); (try k_fold))
  k_with "call ref" => (k_here; (with_reducible show wpAny _ _ (call (Value.ref 53) _) _ _ _); (refine' con_use ?k1W9 ?k2W9 ?k3W9 ?k4W9 ?k5W9 ?kKW9 (nat_of_con _ _ _ _ _ _ _ _ _ ?c1W9 ?c2W9 ?c3W9 ?c4W9) ?kdW9 ?kuW9 ?_); (case k1W9 => k_asm); (case k2W9 => k_asm); (case k3W9 => k_asm); (case k4W9 => k_asm); (case k5W9 => k_asm); (case kKW9 => first | exact rfl | assumption); (case c1W9 => omega); (case c2W9 => omega); (case c3W9 => omega); (case c4W9 => omega); (case kdW9 => ktr_room); (case kuW9 => ktr_units); (rintro r9 nx9 h9 tk9 F9 N9 ⟨a9, its9, n9, e9, e9', hl9, hi9⟩; subst e9; subst e9'); (try dsimp only); (try k_fold))
  intro dp un gd cn cs a ccd cl outer A₀ base h₀ L m s Q E B F X N T hk hd hu hret
  refine wpAny_call ?_
  k_dflt ktr_enter
  repeat' (first | (k_unfold; (try dsimp only)) | ((fail_if_success (with_reducible show wpAny _ _ (exec (Stmt.While _ _ _ _) _) _ _ _)); first | (k_end; wrow_close) | walk1 | (dsimp only; walk1) | (leave1; walk_say "STEP leave1"; try dsimp only) | fail "no step"))
  rename Fr _ _ _ _ => F0
  rename News _ _ _ _ => N0
  have N1 := kst_newsOf (l' := _ :: _ :: news) N0 (fun p hp => by
    rcases List.mem_cons.mp hp with h | hp
    · exact h ▸ .tail _ (.tail _ (.head _))
    rcases List.mem_cons.mp hp with h | hp
    · exact h ▸ .tail _ (.head _)
    exact .tail _ (.tail _ (.tail _ hp)))
  clear N0
  refine ksw_while (fun c : PSt => (c.fa, listOf (List.toArray c.fi) c.fn) :: (c.sa, listOf (List.toArray c.si) c.sn) :: news) (fun c => [(Str.ofString "many", .int c.m c.t), (Str.ofString "found", .ref c.fa), (Str.ofString "square", .ref c.sa)])
    (fun c => IntsAre c.fi (dig (2 ^ W.toNat) c.F) ∧ IntsAre c.si (dig (2 ^ W.toNat) c.S) ∧ (∀ p ∈ news, p.1 < c.fa)) [] (fun c => PInv (b0.toNat ^ m0.toNat) c.F c.S c.m) (fun c => c.m.toNat) ⟨_, [_], _, 1, _, _, _, b0.toNat, m0, _⟩
    F0 N1 ⟨by rw [dig_one (pow_ge2 h2)]; exact .cons _ _ .nil, by assumption, by assumption⟩ (List.forall_mem_cons.mpr ⟨by rfl, List.forall_mem_cons.mpr ⟨by rfl, List.forall_mem_cons.mpr ⟨by rfl, fun _ h => nomatch h⟩⟩⟩) (pInv_start hb hm hm2) ?_
  rintro ⟨fa, fi, fn, F, sa, si, sn, S, m, t⟩ u h tk ⟨hif, his, hlf⟩ hP F1 N2
  dsimp only at hif his hlf hP F1 N2
  have hF := Nat.lt_of_le_of_lt (pInv_F hP) hT
  have hS := fun hm => Nat.lt_of_le_of_lt (pInv_S hP hm) hT
  have hP0 := hP.1
  have hP1 := hP.2.1
  try k_fold
  repeat' (first | (k_unfold; (try dsimp only)) | ((fail_if_success (with_reducible show KswEnd _ _ _ _ _ _ _ _ _ _ _ _)); first | (k_end; wrow_close) | walk1 | (dsimp only; walk1) | (leave1; walk_say "STEP leave1"; try dsimp only) | fail "no step"))
  all_goals first
    | exact ret_list hret (by assumption) (by assumption) (by k_mem) (fun _ h => .tail _ (.tail _ h)) hlf hif (by rw [pInv_end hP (by assumption)])
    | (refine' ksw_end (σ := PSt) ⟨_, _, _, _, _, _, _, _, _, _⟩ ?e1 ?e2 ?e3 ?e4 ?e5 ?e6 ?e7 ?e8
       case e1 => assumption
       case e2 => assumption
       case e5 => exact List.forall_mem_cons.mpr ⟨by rfl, List.forall_mem_cons.mpr ⟨by rfl, List.forall_mem_cons.mpr ⟨by rfl, fun _ h => nomatch h⟩⟩⟩
       case e3 => (refine led2_sub ?_ ?_ ?_; k_mem; k_mem; first | exact fun _ h => .tail _ (.tail _ h) | exact fun _ h => .tail _ (.tail _ (.tail _ h)) | exact fun _ h => .tail _ (.tail _ (.tail _ (.tail _ h))))
       case e4 => exact ⟨by assumption, by assumption, by first | assumption | exact allLt_sub2 (by assumption)⟩
       case e6 => (intro z h2 _; have ha := h2 _ (.head _); have hb := h2 _ (.tail _ (.head _)); have hc := h2 _ (.tail _ (.tail _ (.head _))); dsimp only at ha hb hc; simp [kstB, ha, hb, hc])
       case e7 => first | exact pInv_odd_sq hP (by assumption) | exact pInv_odd_last hP (by assumption) (by assumption) | exact pInv_even_sq hP (by assumption) | exact pInv_even_last hP (by assumption) (by assumption)
       case e8 => exact pInv_less (by assumption))

end PowP
section ProdP
/-- the ledger bears a row of pairs of ints -/
inductive PairsAre (news : List (Addr × Obj)) : List Value → List (Int × Int) → Prop
  | nil : PairsAre news [] []
  | cons {T : Addr} {i j : Int} {ti tj : Tok} {n : Nat} {vs : List Value} {ps : List (Int × Int)} : (T, ({ cls := .type "tuple", data := .seq #[.int i ti, .int j tj] n } : Obj)) ∈ news → PairsAre news vs ps → PairsAre news (.ref T :: vs) ((i, j) :: ps)
theorem PairsAre.mono {news news' : List (Addr × Obj)} {vs : List Value} {ps : List (Int × Int)} (h : PairsAre news vs ps) (hs : ∀ p ∈ news, p ∈ news') : PairsAre news' vs ps := by
  induction h with
  | nil => exact .nil
  | cons hm _ ih => exact .cons (hs _ hm) ih
theorem PairsAre.length {news : List (Addr × Obj)} {vs : List Value} {ps : List (Int × Int)} (h : PairsAre news vs ps) : vs.length = ps.length := by
  induction h with
  | nil => rfl
  | cons _ _ ih => rw [List.length_cons, List.length_cons, ih]
theorem PairsAre.take {news : List (Addr × Obj)} {vs : List Value} {ps : List (Int × Int)} (h : PairsAre news vs ps) : ∀ k, PairsAre news (vs.take k) (ps.take k) := by
  induction h with
  | nil => intro k; rw [List.take_nil, List.take_nil]; exact .nil
  | cons hm _ ih =>
    intro k
    cases k with
    | zero => exact .nil
    | succ k => exact .cons hm (ih k)
theorem PairsAre.drop {news : List (Addr × Obj)} {vs : List Value} {ps : List (Int × Int)} (h : PairsAre news vs ps) : ∀ k, PairsAre news (vs.drop k) (ps.drop k) := by
  induction h with
  | nil => intro k; rw [List.drop_nil, List.drop_nil]; exact .nil
  | cons hm h ih =>
    intro k
    cases k with
    | zero => exact .cons hm h
    | succ k => exact ih k
/-- the product of the powers -/
noncomputable def prodP : List (Int × Int) → Nat
  | [] => 1
  | p :: r => p.1.toNat ^ p.2.toNat * prodP r
noncomputable def PairsOk (ps : List (Int × Int)) : Prop := ∀ p ∈ ps, 1 ≤ p.1 ∧ p.1 < 1000000 ∧ 0 ≤ p.2 ∧ p.2 < 1000000
theorem prodP_append : ∀ ps qs : List (Int × Int), prodP (ps ++ qs) = prodP ps * prodP qs
  | [], _ => (Nat.one_mul _).symm
  | p :: r, qs => by
    show _ * prodP (r ++ qs) = _ * prodP r * prodP qs
    rw [prodP_append r qs, Nat.mul_assoc]
theorem prodP_pos : ∀ {ps : List (Int × Int)}, PairsOk ps → 1 ≤ prodP ps
  | [], _ => Nat.le_refl _
  | p :: r, h => Nat.mul_pos (Nat.pow_pos (by have := (h p (.head _)).1; omega)) (prodP_pos fun q hq => h q (.tail _ hq))
theorem PairsOk.take {ps : List (Int × Int)} (h : PairsOk ps) (k : Nat) : PairsOk (ps.take k) := fun p hp => h p (List.mem_of_mem_take hp)
theorem PairsOk.drop {ps : List (Int × Int)} (h : PairsOk ps) (k : Nat) : PairsOk (ps.drop k) := fun p hp => h p (List.mem_of_mem_drop hp)
theorem prodP_split (ps : List (Int × Int)) (k : Nat) : prodP (ps.take k) * prodP (ps.drop k) = prodP ps := by
  rw [← prodP_append, List.take_append_drop]
theorem prodP_take {ps : List (Int × Int)} (h : PairsOk ps) (k : Nat) : prodP (ps.take k) ≤ prodP ps := by
  have := prodP_split ps k
  rw [← this]
  exact Nat.le_mul_of_pos_right _ (prodP_pos (h.drop k))
theorem prodP_drop {ps : List (Int × Int)} (h : PairsOk ps) (k : Nat) : prodP (ps.drop k) ≤ prodP ps := by
  have := prodP_split ps k
  rw [← this]
  exact Nat.le_mul_of_pos_left _ (prodP_pos (h.take k))
section
open PySem.Calls
theorem bounds_upto {k n : Nat} : sliceBounds none (some (k : Int)) none n = (((0 : Nat) : Int), ((min k n : Nat) : Int), 1) := by
  simp [sliceBounds]
  omega
theorem bounds_from {k n : Nat} : sliceBounds (some (k : Int)) none none n = (((min k n : Nat) : Int), ((n : Nat) : Int), 1) := by
  simp [sliceBounds]
  omega
theorem pick_upto {vs : List Value} {y : Int} (h : 0 ≤ y) : (slicePick vs.toArray none (some y) none).toList = vs.take y.toNat := by
  obtain ⟨k, rfl⟩ := Int.eq_ofNat_of_zero_le h
  rw [kmk_pick_nat _ bounds_upto]
  simp only [List.drop_zero, Nat.sub_zero, Int.toNat_natCast, List.size_toArray, List.toList_toArray]
  exact kmk_take_min _ _
theorem pick_from {vs : List Value} {x : Int} (h : 0 ≤ x) : (slicePick vs.toArray (some x) none none).toList = vs.drop x.toNat := by
  obtain ⟨k, rfl⟩ := Int.eq_ofNat_of_zero_le h
  rw [kmk_pick_nat _ bounds_from]
  simp only [Int.toNat_natCast, List.size_toArray]
  rw [kmk_drop_min, List.take_of_length_le (by simp; omega)]
end
theorem news_list {h₀ h : Heap} {L l : Addr} {news : List (Addr × Obj)} {vs : List Value} {n : Nat} (N : News h₀ L h news) (hm : (l, listOf vs.toArray n) ∈ news) : h.IsList l vs.toArray := ⟨_, (N _ hm).1, rfl, n, rfl⟩
section
open PySem.Calls
theorem at_list {prog : Program} {w : World} {A : Around} {E : Value → Shared → Prop} {s : Shared} {h₀ : Heap} {L l : Addr} {news : List (Addr × Obj)} {value slice : PySem.Expr} {vs : List Value} {n : Nat} {k : Int} {u : Tok} {v : Value} {Q : Value → Shared → Prop}
    (N : News h₀ L s.heap news) (hm : (l, listOf vs.toArray n) ∈ news) (h0 : 0 ≤ k) (hhi : k < 2 ^ 63) (hx : vs[k.toNat]? = some v) (h : Q v s)
    (hs : subscripted slice false (.ref l) (.int k u) = operate [.ref l, .int k u] (getItem (.ref l) (.int k u))) :
    wpAny (model prog w) A (subscriptTail value slice (.ref l) (.int k u)) Q E s :=
  tail_any (news_list N hm).typeIs slot_list_getitem.lookup (wpAny_getItem_list (news_list N hm) h0 hhi (by simpa using hx) h) hs
end
noncomputable def ProdCon (w : World) (mean : ExcName → Option Value) (mg mb : Str → Option Value) (W : Int) (k : Nat) : Prop := ∀ (news : List (Addr × Obj)) (la : Addr) (its : List Value) (na : Nat) (ps : List (Int × Int)) (tw : Tok),
    ps.length < k → (la, listOf its.toArray na) ∈ news → PairsAre news its ps → PairsOk ps → prodP ps < 1152921504606846976 →
    Con w mean mg mb 81 (k + 8) news [.ref la, .int W tw, .ref 109] (RList news (dig (2 ^ W.toNat) (prodP ps)))
set_option maxRecDepth 100000 in
set_option maxHeartbeats 8000000 in
theorem prod_step (w : World) (mean : ExcName → Option Value) (mg mb : Str → Option Value) (W : Int) (h2 : 3 ≤ W) (h3 : W ≤ 9) (k : Nat) (hk1 : k ≤ 40) (IH : ProdCon w mean mg mb W k) : ProdCon w mean mg mb W (k + 1) := by
  intro news la its na ps tw hk0 hm hp hok hT
  have hlen := hp.length
  unfold Con
  k_fill
  w_top off
  k_with_none
  k_with "call builtin:len" => (k_here; (with_reducible show wpAny _ _ (call (Value.builtin "len") [Value.ref _]) _ _ _); k_dflt (refine' kst_len ?k1W9 ?k2W9 ?k3W9 ?k4W9 ?_; (case k1W9 => k_asm); (case k2W9 => k_mem); (case k3W9 => exact IntsAre.length (by assumption)); (case k4W9 => omega); k_whole))
  k_with "subscriptTail" => (k_here; (with_reducible show wpAny _ _ (subscriptTail _ _ (Value.ref _) (Value.int _ _)) _ _ _); (with_unfolding_all refine' at_list ?k1W9 ?k2W9 ?k3W9 ?k4W9 ?k5W9 ?_ ?k6W9); (case k1W9 => assumption); (case k2W9 => k_mem); (case k3W9 => decide); (case k4W9 => decide); (case k5W9 => rfl); (case k6W9 => with_unfolding_all rfl); k_whole)
  k_with "ite" => (k_here; k_openite; k_dflt (first | (refine Mine.if_t ?cW9 ?_; (case cW9 => first | omega | (simp only [beq_iff_eq, bne_iff_ne, ne_eq, decide_eq_true_eq, List.length_cons, List.length_nil]; omega)); walk_say "PRUNED X") | (refine Mine.if_f ?cW9 ?_; (case cW9 => first | omega | (simp only [beq_iff_eq, bne_iff_ne, ne_eq, decide_eq_true_eq, List.length_cons, List.length_nil]; omega)); walk_say "PRUNED X")))
  k_with "call builtin:len" => (k_here; (with_reducible show wpAny _ _ (call (Value.builtin "len") [Value.ref _]) _ _ _); k_dflt (refine' kst_len ?k1W9 ?k2W9 ?k3W9 ?k4W9 ?_; (case k1W9 => k_asm); (case k2W9 => k_mem); (case k3W9 => first | exact PairsAre.length (by assumption) | exact Mine.len_nil | exact Mine.len_one); (case k4W9 => omega); k_whole))
  k_with "subscriptTail Name Slice ref ref" => (k_here; (with_reducible show wpAny _ _ (subscriptTail _ (PySem.Expr.Slice _ _ none _) (Value.ref _) (Value.ref _)) _ _ _); k_dflt (refine' kmk_slice_lit ?FW9 ?NW9 ?lW9 ?pW9 ?qW9 ?eW9 ?_ ?sW9 ?tW9 ?zW9; (case FW9 => k_asm); (case NW9 => k_asm); (case lW9 => exact news_list (by assumption) (by k_mem)); (case pW9 => kmk_part); (case qW9 => kmk_part); (case eW9 => first | exact pick_upto (by with_reducible assumption) | exact pick_from (by with_reducible assumption)); (case sW9 => with_unfolding_all rfl); (case tW9 => kmk_pure); (case zW9 => (simp only [List.size_toArray, PySem.sizeLine_eq]; omega))); intro D' h' F' N' l1; (try k_lt l1); (try k_sweep))
  k_with "call ref" => (k_here; (with_reducible show wpAny _ _ (call (Value.ref 109) _) _ _ _); (refine' con_use ?k1W9 ?k2W9 ?k3W9 ?k4W9 ?k5W9 ?kKW9 (mul_dig _ _ _ _ _ _ _ _ _ _ _ _ _ _ _ ?c1W9 ?c2W9 ?c3W9 ?c4W9 ?c5W9 ?c6W9 ?c7W9 ?c8W9) ?kdW9 ?kuW9 ?_); (case k1W9 => k_asm); (case k2W9 => k_asm); (case k3W9 => k_asm); (case k4W9 => k_asm); (case k5W9 => k_asm); (case kKW9 => first | exact rfl | assumption); (case c1W9 => k_mem); (case c2W9 => with_reducible assumption); (case c3W9 => k_mem); (case c4W9 => with_reducible assumption); (case c5W9 => first | with_reducible assumption | omega); (case c6W9 => first | with_reducible assumption | omega); (case c7W9 => omega); (case c8W9 => omega); (case kdW9 => ktr_room); (case kuW9 => ktr_units); (rintro r9 nx9 h9 tk9 F9 N9 ⟨a9, its9, n9, e9, e9', hl9, hi9⟩; subst e9; subst e9'); (try dsimp only); (try k_fold))
  k_with "call ref" => (k_here; (with_reducible show wpAny _ _ (call (Value.ref 74) _) _ _ _); (refine' con_use ?k1W9 ?k2W9 ?k3W9 ?k4W9 ?k5W9 ?kKW9 (power_con _ _ _ _ _ _ _ _ _ _ _ ?c1W9 ?c2W9 ?c3W9 ?c4W9 ?c5W9 ?c6W9 ?c7W9) ?kdW9 ?kuW9 ?_); (case k1W9 => k_asm); (case k2W9 => k_asm); (case k3W9 => k_asm); (case k4W9 => k_asm); (case k5W9 => k_asm); (case kKW9 => first | exact rfl | assumption); (case c1W9 => omega); (case c2W9 => omega); (case c3W9 => with_reducible assumption); (case c4W9 => omega); (case c5W9 => omega); (case c6W9 => omega); (case c7W9 => omega); (case kdW9 => ktr_room); (case kuW9 => ktr_units); (rintro r9 nx9 h9 tk9 F9 N9 ⟨a9, its9, n9, e9, e9', hl9, hi9⟩; subst e9; subst e9'); (try dsimp only); (try k_fold))
  intro dp un gd cn cs a ccd cl outer A₀ base h₀ L m s Q E B F X N T hk hd hu hret
  rcases (show ps.length = 0 ∨ ps.length = 1 ∨ 2 ≤ ps.length by omega) with h9 | h9 | h9
  · obtain rfl := List.length_eq_zero_iff.mp h9
    cases hp
    refine wpAny_call ?_
    k_dflt ktr_enter
    k_steps
    exact ret_list (its := [_]) hret (by assumption) (by assumption) (by k_mem) (fun _ h => .tail _ h) (by assumption) (.cons _ _ .nil) (dig_one (pow_ge2 h2)).symm
  · obtain ⟨⟨i, j⟩, rfl⟩ := List.length_eq_one_iff.mp h9
    have hpk := hok _ (.head _)
    have hT' : i.toNat ^ j.toNat < 1152921504606846976 := by simpa [prodP] using hT
    have hE : i.toNat ^ j.toNat = prodP [(i, j)] := by simp [prodP]
    cases hp with
    | cons hm1 hp1 =>
    cases hp1
    dsimp only at hpk
    refine wpAny_call ?_
    k_dflt ktr_enter
    k_steps
    exact ret_list hret (by assumption) (by assumption) (by k_mem) (fun _ h => .tail _ h) (lt_of_allLt (by assumption)) (by assumption) (by rw [hE])
  · have hh0 : 0 ≤ Int.fdiv (ps.length : Int) 2 := by rw [fdiv2]; omega
    refine wpAny_call ?_
    k_dflt ktr_enter
    repeat' (first | (k_unfold; (try dsimp only)) | ((fail_if_success (with_reducible show wpAny _ _ (call (Value.ref _) _) _ _ _)); first | (k_end; wrow_close) | walk1 | (dsimp only; walk1) | (leave1; walk_say "STEP leave1"; try dsimp only) | fail "no step"))
    (refine' con_use ?k1 ?k2 ?k3 ?k4 ?k5 ?kK (IH _ _ _ _ (ps.take (Int.fdiv (ps.length : Int) 2).toNat) _ ?c1 ?c2 ?c3 ?c4 ?c5) ?kd ?ku ?_); (case k1 => k_asm); (case k2 => k_asm); (case k3 => k_asm); (case k4 => k_asm); (case k5 => k_asm); (case kK => first | exact rfl | assumption); (case c2 => k_mem); (case c3 => exact (hp.take _).mono (fun _ h => .tail _ h)); (case c1 => (rw [List.length_take, fdiv2]; omega)); (case c4 => exact hok.take _); (case c5 => exact Nat.lt_of_le_of_lt (prodP_take hok _) hT); (case kd => ktr_room); (case ku => ktr_units); (rintro r9 nx9 h9 tk9 F9 N9 ⟨a9, its9, n9, e9, e9', hl9, hi9⟩; subst e9; subst e9'); (try dsimp only); (try k_fold)
    repeat' (first | (k_unfold; (try dsimp only)) | ((fail_if_success (with_reducible show wpAny _ _ (call (Value.ref _) _) _ _ _)); first | (k_end; wrow_close) | walk1 | (dsimp only; walk1) | (leave1; walk_say "STEP leave1"; try dsimp only) | fail "no step"))
    (refine' con_use ?k1 ?k2 ?k3 ?k4 ?k5 ?kK (IH _ _ _ _ (ps.drop (Int.fdiv (ps.length : Int) 2).toNat) _ ?c1 ?c2 ?c3 ?c4 ?c5) ?kd ?ku ?_); (case k1 => k_asm); (case k2 => k_asm); (case k3 => k_asm); (case k4 => k_asm); (case k5 => k_asm); (case kK => first | exact rfl | assumption); (case c2 => k_mem); (case c3 => exact (hp.drop _).mono (fun _ h => .tail _ (.tail _ (.tail _ h)))); (case c1 => (rw [List.length_drop, fdiv2]; omega)); (case c4 => exact hok.drop _); (case c5 => exact Nat.lt_of_le_of_lt (prodP_drop hok _) hT); (case kd => ktr_room); (case ku => ktr_units); (rintro r9 nx9 h9 tk9 F9 N9 ⟨a9, its9, n9, e9, e9', hl9, hi9⟩; subst e9; subst e9'); (try dsimp only); (try k_fold)
    have hb1 := Nat.lt_of_le_of_lt (prodP_take hok (Int.fdiv (ps.length : Int) 2).toNat) hT
    have hb2 := Nat.lt_of_le_of_lt (prodP_drop hok (Int.fdiv (ps.length : Int) 2).toNat) hT
    have hsp := prodP_split ps (Int.fdiv (ps.length : Int) 2).toNat
    k_steps
    exact ret_list hret (by assumption) (by assumption) (by k_mem) (fun _ h => .tail _ (.tail _ (.tail _ (.tail _ (.tail _ h))))) (fun p hp => lt_of_allLt (by assumption) p (.tail _ (.tail _ (.tail _ (.tail _ hp))))) (by assumption) (by rw [hsp])
theorem prod_all (w : World) (mean : ExcName → Option Value) (mg mb : Str → Option Value) (W : Int) (h2 : 3 ≤ W) (h3 : W ≤ 9) : ∀ k, k ≤ 41 → ProdCon w mean mg mb W k
  | 0, _ => fun _ _ _ _ _ _ h => absurd h (Nat.not_lt_zero _)
  | k + 1, h => prod_step w mean mg mb W h2 h3 k (by omega) (prod_all w mean mg mb W h2 h3 k (by omega))
theorem prod_con (w : World) (mean : ExcName → Option Value) (mg mb : Str → Option Value) (news : List (Addr × Obj)) (la : Addr) (its : List Value) (na : Nat) (ps : List (Int × Int)) (W : Int) (tw : Tok) (h2 : 3 ≤ W) (h3 : W ≤ 9)
    (hl : ps.length ≤ 32) (hm : (la, listOf its.toArray na) ∈ news) (hp : PairsAre news its ps) (hok : PairsOk ps) (hT : prodP ps < 1152921504606846976) :
    Con w mean mg mb 81 41 news [.ref la, .int W tw, .ref 109] (RList news (dig (2 ^ W.toNat) (prodP ps))) :=
  prod_all w mean mg mb W h2 h3 33 (by omega) news la its na ps tw (by omega) hm hp hok hT

end ProdP
section SmallP
/-- the quotients' odd ones, as the code counts them -/
noncomputable def sw (p n : Nat) : Nat := if n = 0 ∨ p < 2 then 0 else n % 2 + sw p (n / p)
termination_by n
decreasing_by
  have : 0 < n := by omega
  exact Nat.div_lt_self this (by omega)
/-- how often p divides -/
noncomputable def vp (p n : Nat) : Nat := if n = 0 ∨ p < 2 then 0 else if n % p = 0 then vp p (n / p) + 1 else 0
termination_by n
decreasing_by
  have : 0 < n := by omega
  exact Nat.div_lt_self this (by omega)
theorem sw_zero (p : Nat) : sw p 0 = 0 := by rw [sw]; simp
theorem sw_pos {p n : Nat} (h : 0 < n) (hp : 2 ≤ p) : sw p n = n % 2 + sw p (n / p) := by rw [sw, if_neg (by omega)]
theorem vp_dvd {p n : Nat} (h : 0 < n) (hp : 2 ≤ p) (hd : n % p = 0) : vp p n = vp p (n / p) + 1 := by rw [vp, if_neg (by omega), if_pos hd]
theorem vp_not {p n : Nat} (hd : ¬ n % p = 0) : vp p n = 0 := by
  rw [vp]
  by_cases h : n = 0 ∨ p < 2
  · rw [if_pos h]
  · rw [if_neg h, if_neg hd]
noncomputable def SwInv (p n0 n found : Int) : Prop := found + (sw p.toNat n.toNat : Nat) = (sw p.toNat n0.toNat : Nat)
theorem swInv_turn {p n0 n found : Int} (h : SwInv p n0 n found) (hn : 0 < n) (hp : 2 ≤ p) (hb : n < 100000) :
    0 ≤ Int.fdiv n p ∧ Int.fdiv n p < 100000 ∧ SwInv p n0 (Int.fdiv n p) (found + Int.fmod n 2) := by
  have a := fdiv_le_self (Int.le_of_lt hn) (show 1 ≤ p by omega)
  have b := fdiv_nonneg' (Int.le_of_lt hn) (show 0 ≤ p by omega)
  refine ⟨b, by omega, ?_⟩
  unfold SwInv at *
  rw [sw_pos (by omega) (by omega)] at h
  rw [fdiv_nat (by omega) (by omega), fmod_nat (by omega) (by omega), Int.toNat_natCast]
  push_cast at h ⊢
  omega
theorem swInv_end {p n0 n found : Int} (h : SwInv p n0 n found) (hn : ¬ 0 < n) : found = (sw p.toNat n0.toNat : Nat) := by
  unfold SwInv at h
  rw [show n.toNat = 0 by omega, sw_zero] at h
  omega
set_option maxRecDepth 100000 in
set_option maxHeartbeats 8000000 in
theorem swing_con (w : World) (mean : ExcName → Option Value) (mg mb : Str → Option Value) (news : List (Addr × Obj)) (n0 p : Int) (t1 t2 : Tok) (h0 : 0 ≤ n0) (h1 : n0 < 100000) (h2 : 2 ≤ p) (h3 : p < 100) :
    Con w mean mg mb 88 1 news [.int n0 t1, .int p t2] (RInt news (sw p.toNat (n0.toNat / p.toNat) : Nat)) := by
  have a := fdiv_le_self h0 (show 1 ≤ p by omega)
  have b := fdiv_nonneg' h0 (show 0 ≤ p by omega)
  have e : n0.toNat / p.toNat = (Int.fdiv n0 p).toNat := by rw [fdiv_nat h0 (by omega), Int.toNat_natCast]
  unfold Con
  k_fill
  w_top off
  k_with_none
  k_with "call builtin:len" => (k_here; (with_reducible show wpAny _ _ (call (Value.builtin "len") [Value.ref _]) _ _ _); k_dflt (refine' kst_len ?k1W9 ?k2W9 ?k3W9 ?k4W9 ?_; (case k1W9 => k_asm); (case k2W9 => k_mem); (case k3W9 => exact IntsAre.length (by assumption)); (case k4W9 => omega); k_whole))
  k_with "state" => (first | exact ⟨b, by omega, Int.zero_add _⟩ | exact swInv_turn (by assumption) (by assumption) h2 (by assumption))
  k_with "measure" => exact (Int.toNat_lt_toNat (by assumption)).mpr (fdiv_lt_self (by assumption) h2)
  k_with "exec While Compare cons nil" => k_while (fun _ found n => 0 ≤ n ∧ n < 100000 ∧ SwInv p (Int.fdiv n0 p) n found) (fun _ _ n => n.toNat) "found" "rest"
  intro dp un gd cn cs a ccd cl outer A₀ base h₀ L m s Q E B F X N T hk hd hu hret
  refine wpAny_call ?_
  k_dflt ktr_enter
  k_steps
  all_goals exact ret_int hret (by assumption) (by assumption) (fun _ h => by first | exact h | exact .tail _ h) (by rw [e]; exact swInv_end (by assumption) (by assumption))

theorem digRow_turn {W n0 n : Int} {found : List Int} (h2 : 3 ≤ W) (h1 : n0 < 1152921504606846976) (h : DigInv (2 ^ W.toNat) n0 n found) (hn : 0 < n) (hb : n < 1152921504606846976) :
    0 ≤ n.fdiv (2 ^ W.toNat) ∧ n.fdiv (2 ^ W.toNat) < 1152921504606846976 ∧ ((found ++ [n.fmod (2 ^ W.toNat)]).length : Int) ≤ 60 ∧
      DigInv (2 ^ W.toNat) n0 (n.fdiv (2 ^ W.toNat)) (found ++ [n.fmod (2 ^ W.toNat)]) := by
  have := natInv_turn h2 h1 h hn hb
  rw [Int.one_mul, kbt_maskF] at this
  exact this
set_option maxRecDepth 100000 in
set_option maxHeartbeats 8000000 in
theorem row_con (w : World) (mean : ExcName → Option Value) (mg mb : Str → Option Value) (news : List (Addr × Obj)) (n0 W : Int) (t1 t2 : Tok) (h0 : 0 ≤ n0) (h1 : n0 < 1152921504606846976) (h2 : 3 ≤ W) (h3 : W ≤ 9) :
    Con w mean mg mb 128 1 news [.int n0 t1, .int W t2] (RList news (dig (2 ^ W.toNat) n0.toNat)) := by
  unfold Con
  k_fill
  w_top off
  k_with_none
  k_with "call builtin:len" => (k_here; (with_reducible show wpAny _ _ (call (Value.builtin "len") [Value.ref _]) _ _ _); k_dflt (refine' kst_len ?k1W9 ?k2W9 ?k3W9 ?k4W9 ?_; (case k1W9 => k_asm); (case k2W9 => k_mem); (case k3W9 => exact IntsAre.length (by assumption)); (case k4W9 => omega); k_whole))
  k_with "state" => (first | exact ⟨h0, h1, (by decide), digInv_start⟩ | exact digRow_turn h2 h1 (by assumption) (by assumption) (by assumption))
  k_with "measure" => exact natInv_less h2 (by assumption)
  k_with "exec While Compare cons nil" => k_while (fun _ n found => 0 ≤ n ∧ n < 1152921504606846976 ∧ (found.length : Int) ≤ 60 ∧ DigInv (2 ^ W.toNat) n0 n found) (fun _ n _ => n.toNat) "number" "found"
  intro dp un gd cn cs a ccd cl outer A₀ base h₀ L m s Q E B F X N T hk hd hu hret
  refine wpAny_call ?_
  k_dflt ktr_enter
  k_steps
  all_goals exact ret_list hret (by assumption) (by assumption) (by k_mem) (fun _ h => .tail _ h) (by assumption) (by assumption) (digInv_end (by assumption) (by assumption))

end SmallP
section Small2P
theorem figs_turn {p n0 n : Int} {found : List Int} (h2 : 2 ≤ p) (h1 : n0 < 100000) (h : DigInv p.toNat n0 n found) (hn : 0 < n) (hb : n < 100000) :
    0 ≤ n.fdiv p ∧ n.fdiv p < 100000 ∧ ((found ++ [n.fmod p]).length : Int) ≤ 60 ∧ DigInv p.toNat n0 (n.fdiv p) (found ++ [n.fmod p]) := by
  have a := fdiv_le_self (Int.le_of_lt hn) (show 1 ≤ p by omega)
  have b := fdiv_nonneg' (Int.le_of_lt hn) (show 0 ≤ p by omega)
  have e : ((p.toNat : Nat) : Int) = p := by omega
  have h6 := digInv_step (by omega) h hn (x := n.fmod p) (by rw [e])
  rw [e] at h6
  exact ⟨b, by omega, digInv_len (by omega) h6 (by omega), h6⟩
set_option maxRecDepth 100000 in
set_option maxHeartbeats 8000000 in
theorem figs_con (w : World) (mean : ExcName → Option Value) (mg mb : Str → Option Value) (news : List (Addr × Obj)) (n0 p : Int) (t1 t2 : Tok) (h0 : 0 ≤ n0) (h1 : n0 < 100000) (h2 : 2 ≤ p) (h3 : p < 100) :
    Con w mean mg mb 147 1 news [.int n0 t1, .int p t2] (RList news (dig p.toNat n0.toNat)) := by
  unfold Con
  k_fill
  w_top off
  k_with_none
  k_with "call builtin:len" => (k_here; (with_reducible show wpAny _ _ (call (Value.builtin "len") [Value.ref _]) _ _ _); k_dflt (refine' kst_len ?k1W9 ?k2W9 ?k3W9 ?k4W9 ?_; (case k1W9 => k_asm); (case k2W9 => k_mem); (case k3W9 => exact IntsAre.length (by assumption)); (case k4W9 => omega); k_whole))
  k_with "state" => (first | exact ⟨h0, h1, (by decide), digInv_start⟩ | exact figs_turn h2 h1 (by assumption) (by assumption) (by assumption))
  k_with "measure" => exact (Int.toNat_lt_toNat (by assumption)).mpr (fdiv_lt_self (by assumption) h2)
  k_with "exec While Compare cons nil" => k_while (fun _ n found => 0 ≤ n ∧ n < 100000 ∧ (found.length : Int) ≤ 60 ∧ DigInv p.toNat n0 n found) (fun _ n _ => n.toNat) "number" "found"
  intro dp un gd cn cs a ccd cl outer A₀ base h₀ L m s Q E B F X N T hk hd hu hret
  refine wpAny_call ?_
  k_dflt ktr_enter
  k_steps
  all_goals exact ret_list hret (by assumption) (by assumption) (by k_mem) (fun _ h => .tail _ h) (by assumption) (by assumption) (digInv_end (by assumption) (by assumption))

noncomputable def VpInv (p n0 n found : Int) : Prop := found + (vp p.toNat n.toNat : Nat) = (vp p.toNat n0.toNat : Nat)
theorem vpInv_turn {p n0 n found : Int} (h : VpInv p n0 n found) (hn : 0 < n) (hp : 2 ≤ p) (hb : n < 1152921504606846976) (hd : Int.fmod n p = 0) :
    0 < Int.fdiv n p ∧ Int.fdiv n p < 1152921504606846976 ∧ VpInv p n0 (Int.fdiv n p) (found + 1) := by
  have a := fdiv_le_self (Int.le_of_lt hn) (show 1 ≤ p by omega)
  have b := fdiv_nonneg' (Int.le_of_lt hn) (show 0 ≤ p by omega)
  have c : p * Int.fdiv n p + Int.fmod n p = n := Int.mul_fdiv_add_fmod n p
  have d : Int.fdiv n p ≠ 0 := fun e => by rw [e, hd, Int.mul_zero] at c; omega
  refine ⟨by omega, by omega, ?_⟩
  unfold VpInv at *
  rw [fmod_nat (by omega) (by omega)] at hd
  rw [vp_dvd (by omega) (by omega) (by exact_mod_cast hd)] at h
  rw [fdiv_nat (by omega) (by omega), Int.toNat_natCast]
  push_cast at h ⊢
  omega
theorem vpInv_end {p n0 n found : Int} (h : VpInv p n0 n found) (hn : 0 < n) (hp : 2 ≤ p) (hd : ¬ Int.fmod n p = 0) : found = (vp p.toNat n0.toNat : Nat) := by
  unfold VpInv at h
  rw [fmod_nat (by omega) (by omega)] at hd
  rw [vp_not (by exact_mod_cast hd)] at h
  omega
set_option maxRecDepth 100000 in
set_option maxHeartbeats 8000000 in
theorem stands_con (w : World) (mean : ExcName → Option Value) (mg mb : Str → Option Value) (news : List (Addr × Obj)) (n0 p : Int) (t1 t2 : Tok) (h0 : 0 < n0) (h1 : n0 < 1152921504606846976) (h2 : 2 ≤ p) (h3 : p < 100) :
    Con w mean mg mb 154 1 news [.int n0 t1, .int p t2] (RInt news (vp p.toNat n0.toNat : Nat)) := by
  unfold Con
  k_fill
  w_top off
  k_with_none
  k_with "call builtin:len" => (k_here; (with_reducible show wpAny _ _ (call (Value.builtin "len") [Value.ref _]) _ _ _); k_dflt (refine' kst_len ?k1W9 ?k2W9 ?k3W9 ?k4W9 ?_; (case k1W9 => k_asm); (case k2W9 => k_mem); (case k3W9 => exact IntsAre.length (by assumption)); (case k4W9 => omega); k_whole))
  k_with "state" => (first | exact ⟨h0, h1, Int.zero_add _⟩ | exact vpInv_turn (by assumption) (by assumption) h2 (by assumption) (by assumption))
  k_with "measure" => exact (Int.toNat_lt_toNat (by assumption)).mpr (fdiv_lt_self (by assumption) h2)
  k_with "exec While Compare cons nil" => k_while (fun _ n found => 0 < n ∧ n < 1152921504606846976 ∧ VpInv p n0 n found) (fun _ n _ => n.toNat) "number" "found"
  intro dp un gd cn cs a ccd cl outer A₀ base h₀ L m s Q E B F X N T hk hd hu hret
  refine wpAny_call ?_
  k_dflt ktr_enter
  k_steps
  all_goals exact ret_int hret (by assumption) (by assumption) (fun _ h => by first | exact h | exact .tail _ h) (vpInv_end (by assumption) (by assumption) h2 (by assumption))

/-- the carries where two numbers and one carry are added -/
noncomputable def ca (p a b c : Nat) : Nat := if (a = 0 ∧ b = 0 ∧ c = 0) ∨ p < 2 ∨ 1 < c then 0 else (if p ≤ a % p + b % p + c then 1 else 0) + ca p (a / p) (b / p) (if p ≤ a % p + b % p + c then 1 else 0)
termination_by a + b + c
decreasing_by
  have ha := Nat.mod_add_div a p
  have hb := Nat.mod_add_div b p
  have ka : 2 * (a / p) ≤ p * (a / p) := Nat.mul_le_mul_right _ (by omega)
  have kb : 2 * (b / p) ≤ p * (b / p) := Nat.mul_le_mul_right _ (by omega)
  split <;> omega
theorem ca_zero (p : Nat) : ca p 0 0 0 = 0 := by rw [ca]; simp
theorem ca_pos {p a b c : Nat} (h : 0 < a ∨ 0 < b ∨ 0 < c) (hp : 2 ≤ p) (hc : c ≤ 1) : ca p a b c = (if p ≤ a % p + b % p + c then 1 else 0) + ca p (a / p) (b / p) (if p ≤ a % p + b % p + c then 1 else 0) := by
  rw [ca, if_neg (by omega)]
noncomputable def CaInv (p a0 b0 a b c found : Int) : Prop := found + (ca p.toNat a.toNat b.toNat c.toNat : Nat) = (ca p.toNat a0.toNat b0.toNat 0 : Nat)
theorem caInv_turn {p a0 b0 a b c found c' : Int} (h : CaInv p a0 b0 a b c found) (hn : 0 < a ∨ 0 < b ∨ 0 < c) (hp : 2 ≤ p) (ha : 0 ≤ a) (hb : 0 ≤ b) (hc : 0 ≤ c) (hc1 : c ≤ 1) (ha2 : a < 100000) (hb2 : b < 100000)
    (hc' : (Int.fmod a p + Int.fmod b p + c ≥ p ∧ c' = 1) ∨ (¬ Int.fmod a p + Int.fmod b p + c ≥ p ∧ c' = 0)) :
    0 ≤ Int.fdiv a p ∧ Int.fdiv a p < 100000 ∧ 0 ≤ Int.fdiv b p ∧ Int.fdiv b p < 100000 ∧ 0 ≤ c' ∧ c' ≤ 1 ∧ CaInv p a0 b0 (Int.fdiv a p) (Int.fdiv b p) c' (found + c') ∧
      (Int.fdiv a p).toNat + (Int.fdiv b p).toNat + c'.toNat < a.toNat + b.toNat + c.toNat := by
  have a1 := fdiv_le_self ha (show 1 ≤ p by omega)
  have a2 := fdiv_nonneg' ha (show 0 ≤ p by omega)
  have b1 := fdiv_le_self hb (show 1 ≤ p by omega)
  have b2 := fdiv_nonneg' hb (show 0 ≤ p by omega)
  refine ⟨a2, by omega, b2, by omega, by omega, by omega, ?_, ?_⟩
  · unfold CaInv at *
    rw [ca_pos (by omega) (by omega) (by omega)] at h
    rw [fmod_nat ha (by omega), fmod_nat hb (by omega)] at hc'
    rw [fdiv_nat ha (by omega), fdiv_nat hb (by omega), Int.toNat_natCast, Int.toNat_natCast]
    rcases hc' with ⟨k, rfl⟩ | ⟨k, rfl⟩
    · rw [if_pos (by omega)] at h
      push_cast at h ⊢
      show found + 1 + (ca p.toNat (a.toNat / p.toNat) (b.toNat / p.toNat) 1 : Nat) = _
      omega
    · rw [if_neg (by omega)] at h
      push_cast at h ⊢
      show found + 0 + (ca p.toNat (a.toNat / p.toNat) (b.toNat / p.toNat) 0 : Nat) = _
      omega
  · have c1 : p * Int.fdiv a p + Int.fmod a p = a := Int.mul_fdiv_add_fmod a p
    have c2 : p * Int.fdiv b p + Int.fmod b p = b := Int.mul_fdiv_add_fmod b p
    have k1 : 2 * Int.fdiv a p ≤ p * Int.fdiv a p := Int.mul_le_mul_of_nonneg_right hp a2
    have k2 : 2 * Int.fdiv b p ≤ p * Int.fdiv b p := Int.mul_le_mul_of_nonneg_right hp b2
    have m1 : 0 ≤ Int.fmod a p := fmod_lo a (by omega)
    have m2 : 0 ≤ Int.fmod b p := fmod_lo b (by omega)
    omega
theorem caInv_state {A B C D E F G H : Prop} (h : A ∧ B ∧ C ∧ D ∧ E ∧ F ∧ G ∧ H) : A ∧ B ∧ C ∧ D ∧ E ∧ F ∧ G := ⟨h.1, h.2.1, h.2.2.1, h.2.2.2.1, h.2.2.2.2.1, h.2.2.2.2.2.1, h.2.2.2.2.2.2.1⟩
theorem caInv_meas {A B C D E F G H : Prop} (h : A ∧ B ∧ C ∧ D ∧ E ∧ F ∧ G ∧ H) : H := h.2.2.2.2.2.2.2
theorem caInv_end {p a0 b0 a b c found : Int} (h : CaInv p a0 b0 a b c found) (ha : ¬ 0 < a) (hb : ¬ 0 < b) (hc : ¬ 0 < c) : found = (ca p.toNat a0.toNat b0.toNat 0 : Nat) := by
  unfold CaInv at h
  rw [show a.toNat = 0 by omega, show b.toNat = 0 by omega, show c.toNat = 0 by omega, ca_zero] at h
  omega
set_option maxRecDepth 100000 in
set_option maxHeartbeats 8000000 in
theorem carries_con (w : World) (mean : ExcName → Option Value) (mg mb : Str → Option Value) (news : List (Addr × Obj)) (a0 b0 p : Int) (t1 t2 t3 : Tok) (h0 : 0 ≤ a0) (h1 : a0 < 100000) (g0 : 0 ≤ b0) (g1 : b0 < 100000) (h2 : 2 ≤ p) (h3 : p < 100) :
    Con w mean mg mb 161 1 news [.int a0 t1, .int b0 t2, .int p t3] (RInt news (ca p.toNat a0.toNat b0.toNat 0 : Nat)) := by
  unfold Con
  k_fill
  w_top off
  k_with_none
  k_with "call builtin:len" => (k_here; (with_reducible show wpAny _ _ (call (Value.builtin "len") [Value.ref _]) _ _ _); k_dflt (refine' kst_len ?k1W9 ?k2W9 ?k3W9 ?k4W9 ?_; (case k1W9 => k_asm); (case k2W9 => k_mem); (case k3W9 => exact IntsAre.length (by assumption)); (case k4W9 => omega); k_whole))
  k_with "state" => (first | exact ⟨h0, h1, g0, g1, by decide, by decide, Int.zero_add _⟩ | exact caInv_state (caInv_turn (by assumption) (by omega) h2 (by omega) (by omega) (by omega) (by omega) (by omega) (by omega) (.inl ⟨by omega, rfl⟩)) | exact caInv_state (caInv_turn (by assumption) (by omega) h2 (by omega) (by omega) (by omega) (by omega) (by omega) (by omega) (.inr ⟨by omega, rfl⟩)))
  k_with "measure" => (first | exact caInv_meas (caInv_turn (by assumption) (by omega) h2 (by omega) (by omega) (by omega) (by omega) (by omega) (by omega) (.inl ⟨by omega, rfl⟩)) | exact caInv_meas (caInv_turn (by assumption) (by omega) h2 (by omega) (by omega) (by omega) (by omega) (by omega) (by omega) (.inr ⟨by omega, rfl⟩)))
  k_with "exec While BoolOp cons nil" => k_while (fun _ carry one other found => 0 ≤ one ∧ one < 100000 ∧ 0 ≤ other ∧ other < 100000 ∧ 0 ≤ carry ∧ carry ≤ 1 ∧ CaInv p a0 b0 one other carry found) (fun _ carry one other _ => one.toNat + other.toNat + carry.toNat) "carry" "one" "other" "found"
  intro dp un gd cn cs a ccd cl outer A₀ base h₀ L m s Q E B F X N T hk hd hu hret
  refine wpAny_call ?_
  k_dflt ktr_enter
  k_steps
  all_goals exact ret_int hret (by assumption) (by assumption) (fun _ h => by first | exact h | exact .tail _ h) (caInv_end (by assumption) (by omega) (by omega) (by omega))

end Small2P
section CompP
section
open PySem.Calls PyProof.V PySem.Spec PyProof.Rows.LCg PyProof.Rows.LCp
variable {prog : Program} {w : World} {A : Around} {E : Value → Shared → Prop} {s : Shared} {h₀ : Heap} {L : Addr} {m : Str → Option Value} {env : Env}

/-- an element has come out, the heap is as it was -/
noncomputable def ElemIs (s : Shared) (h : Heap) (Y : Nat → Value → Prop) (i : Nat) (y : Value) (s' : Shared) : Prop := (∃ tk', s' = { s with heap := h, toks := tk' }) ∧ Y i y
theorem ElemIs.intro {s : Shared} {h : Heap} {Y : Nat → Value → Prop} {i : Nat} {y : Value} {tk' : Nat} (hy : Y i y) : ElemIs s h Y i y { s with heap := h, toks := tk' } := ⟨⟨_, rfl⟩, hy⟩
/-- what is asked of a comprehension's source that is an enumerate of a list of ints -/
noncomputable def SrcEn (prog : Program) (w : World) (A : Around) (h₀ : Heap) (L : Addr) (m : Str → Option Value) (env : Env) (elt : PySem.Expr) (xi xv : Str) (scope : Scope) (cl : List (Str × Addr)) (Q : Value → Shared → Prop) (xw : Value) (s₁ : Shared) : Prop :=
  ∃ (e it l : Addr) (vs : List Value) (k : Nat) (xs : List Int) (news : List (Addr × Obj)) (Y : Nat → Value → Prop), xw = .ref e ∧ A.handled = none ∧ e ≠ it ∧ IsEnum s₁.heap e it 0 .none ∧ s₁.heap.IsListIter it l 0 ∧ (l, listOf vs.toArray k) ∈ news ∧ IntsAre vs xs ∧ xs.length ≤ sizeLine ∧
    Fr h₀ L s₁.heap m ∧ News h₀ L s₁.heap news ∧ (∀ p ∈ news, p.1 ≠ e ∧ p.1 ≠ it) ∧ L ≠ e ∧ L ≠ it ∧ h₀.get? e = none ∧ h₀.get? it = none ∧
    (∀ i x t tx C oC m₂ h tk (E' : Value → Shared → Prop), xs[i]? = some x → NsObj oC m₂ → m₂ xi = some (.int (i : Nat) t) → m₂ xv = some (.int x tx) → Fr h₀ L h m → News h₀ L h ((C, oC) :: news) →
      wpAny (model prog w) A (eval elt (compEnvC scope cl C env)) (fun y s' => ElemIs s₁ h Y i y s') E' { s₁ with heap := h, toks := tk }) ∧
    (∀ D h tk ys, Fr h₀ L h m → News h₀ L h ((D, lst ys) :: news) → (∀ p ∈ news, p.1 ≠ D) → ys.length = xs.length → (∀ j y, ys[j]? = some y → Y j y) → Q (.ref D) { s₁ with heap := h, toks := tk })

theorem block_En {elt iter : PySem.Expr} {xi xv : Str} {pi pv tp : Pos} {kk : Nat} {scope : Scope} {cl : List (Str × Addr)} {pos : Pos} {s₁ : Shared} {e it l : Addr} {vs : List Value} {k : Nat} {xs : List Int} {news : List (Addr × Obj)} {Y : Nat → Value → Prop} {RR : Value → Addr → Result → Shared → Prop}
    (hcell : ∀ y ∈ scope.names, y.2 ≠ .cell) (hkind : scope.kind = .function) (hxi : scope.names.lookup xi = some .local) (hxv : scope.names.lookup xv = some .local) (hxx : xi ≠ xv)
    (hh : A.handled = none) (hei : e ≠ it) (hE : IsEnum s₁.heap e it 0 .none) (hI : s₁.heap.IsListIter it l 0) (hm : (l, listOf vs.toArray k) ∈ news) (hi : IntsAre vs xs) (hsz : xs.length ≤ sizeLine)
    (F : Fr h₀ L s₁.heap m) (N : News h₀ L s₁.heap news) (off : ∀ p ∈ news, p.1 ≠ e ∧ p.1 ≠ it) (hLe : L ≠ e) (hLi : L ≠ it) (he₀ : h₀.get? e = none) (hi₀ : h₀.get? it = none)
    (turn : ∀ i x t tx C oC m₂ h tk (E' : Value → Shared → Prop), xs[i]? = some x → NsObj oC m₂ → m₂ xi = some (.int (i : Nat) t) → m₂ xv = some (.int x tx) → Fr h₀ L h m → News h₀ L h ((C, oC) :: news) →
      wpAny (model prog w) A (eval elt (compEnvC scope cl C env)) (fun y s' => ElemIs s₁ h Y i y s') E' { s₁ with heap := h, toks := tk })
    (hRR : ∀ D C h tk m' ys, Fr h₀ L h m → News h₀ L h ((D, lst ys) :: news) → h.Ns C m' → h₀.get? C = none → C ≠ L → (∀ p ∈ (D, lst ys) :: news, p.1 ≠ C) → (∀ p ∈ news, p.1 ≠ D) → ys.length = xs.length → (∀ j y, ys[j]? = some y → Y j y) → RR (.ref D) C (.ok .next) { s₁ with heap := h, toks := tk }) :
    wpAny (model prog w) A (newList []) (fun acc s₃ => wpAny (model prog w) A (newFunctionEnv scope env.globals cl [] env.qual none .none (some env)) (fun cenv s₄ =>
      codeAny (model prog w) A (.compStart (.ListComp elt [⟨.Tuple [.Name xi pi, .Name xv pv] kk tp, iter, [], 0⟩] scope pos) 0 (.ref e) acc { cenv with scope := relabel scope env }) (RR acc cenv.locals) s₄) E s₃) E s₁ := by
  refine wpAny_newObj_type (wpAny_newFunctionEnv hcell (by intro y hy; simp at hy) (fun h₁ hns₁ hsb₁ => ?_) hkind)
  dsimp only at hns₁ hsb₁ ⊢
  generalize hH2 : s₁.heap.push { cls := .type "list", dict := none, data := .seq ([] : List Value).toArray } = H2 at hns₁ hsb₁ ⊢
  have hC : H2.objs.size = s₁.heap.objs.size + 1 := by rw [← hH2, Heap.size_push]
  have hDC : s₁.heap.objs.size ≠ H2.objs.size := by rw [hC]; exact Nat.ne_of_lt (Nat.lt_succ_self _)
  have below : ∀ b, b < s₁.heap.objs.size → b ≠ H2.objs.size ∧ b ≠ s₁.heap.objs.size := fun b hb => ⟨by rw [hC]; exact Nat.ne_of_lt (Nat.lt_succ_of_lt hb), Nat.ne_of_lt hb⟩
  have helt : e < s₁.heap.objs.size := Heap.lt_size hE
  have hilt : it < s₁.heap.objs.size := by obtain ⟨_, x, _⟩ := hI; exact Heap.lt_size x
  have old : ∀ b o, s₁.heap.get? b = some o → h₁.get? b = some o := fun b o e => hsb₁.extBut b o (below b (Heap.lt_size e)).1 (Heap.get?_push_of_some _ (hH2 ▸ Heap.get?_push_of_some _ e))
  have hacc : h₁.get? s₁.heap.objs.size = some (lst []) := hsb₁.extBut _ _ hDC (Heap.get?_push_of_some _ (hH2 ▸ Heap.get?_push_size _ rfl))
  have hl₁ : s₁.heap.IsList l vs.toArray := ⟨_, (N _ hm).1, rfl, k, rfl⟩
  have hllt : l < s₁.heap.objs.size := Heap.lt_size (N _ hm).1
  have fresh₀ : ∀ a, s₁.heap.objs.size ≤ a → h₀.get? a = none := fun a ha => by
    cases q : h₀.get? a with
    | none => rfl
    | some o' => exact absurd (Heap.lt_size (F.keep a o' q)) (Nat.not_lt.mpr ha)
  have hD₀ : h₀.get? s₁.heap.objs.size = none := fresh₀ _ (Nat.le_refl _)
  have hC₀ : h₀.get? H2.objs.size = none := fresh₀ _ (by rw [hC]; exact Nat.le_succ _)
  have hLlt : L < s₁.heap.objs.size := F.ns.lt
  have hDL : s₁.heap.objs.size ≠ L := Ne.symm (below L hLlt).2
  have hCL : H2.objs.size ≠ L := Ne.symm (below L hLlt).1
  have hlen : vs.toArray.size = xs.length := by simp [hi.length]
  have W := (WalksT.enumerate (prog := prog) (w := w) hh e it l hei (off _ hm).1 (off _ hm).2 vs.toArray).toU
  rw [hlen] at W
  have offN : ∀ p ∈ news, p.1 ≠ H2.objs.size ∧ p.1 ≠ s₁.heap.objs.size := fun p hp => below _ (Heap.lt_size (N p hp).1)
  have nwr : ∀ b : Addr, b ≠ e → b ≠ it → b ∉ [e, it] := fun b h1 h2 h3 => by
    rcases List.mem_cons.mp h3 with q | q
    · exact h1 q
    · exact h2 (List.mem_singleton.mp q)
  have loop : ∀ s₃ : Shared, s₃ = { s₁ with heap := h₁, toks := s₁.toks + ([] : List (Str × Value)).length } →
      codeAny (model prog w) A (.compLoop (.ListComp elt [⟨.Tuple [.Name xi pi, .Name xv pv] kk tp, iter, [], 0⟩] scope pos) 0 (.ref e) (.ref s₁.heap.objs.size) (compEnvC scope cl H2.objs.size env)) (RR (.ref s₁.heap.objs.size) H2.objs.size) s₃ := by
    rintro s₃ rfl
    refine codeAny_compLoop_pair
      (fun kx s' => ∃ h' tk i ys m', s' = { s₁ with heap := h', toks := tk } ∧ i ≤ xs.length ∧ kx = xs.length + 1 - i ∧ ys.length = i ∧ ((∃ old, IsEnum h' e it i old) ∧ h'.IsListIter it l i ∧ h'.IsList l vs.toArray) ∧ Fr h₀ L h' m ∧ h'.Ns H2.objs.size m' ∧
        News h₀ L h' ((s₁.heap.objs.size, lst ys) :: news) ∧ (∀ j y, ys[j]? = some y → Y j y)) ?_ (xs.length + 1)
      ⟨h₁, _, 0, [], _, rfl, Nat.zero_le _, rfl, rfl, ⟨⟨.none, old _ _ hE⟩, hI.at fun o q => old _ o q, hl₁.at fun o q => old _ o q⟩, F.keeps old, hns₁, fun p hp => ?_, fun j y hj => by simp at hj⟩
    · rintro kx s' ⟨h', tk, i, ys, m', rfl, hin, rfl, hyl, hst', F', hn', N', hY⟩
      by_cases hlt : i < xs.length
      · refine W.item i _ _ _ hlt hst' fun T vals h₂ tk₂ hPv hT hMid hk₂ => ?_
        obtain ⟨t, x, hx, rfl⟩ := hPv
        refine W.go _ _ _ i T _ _ _ hMid fun h₃ hst₃ hk₃ => ?_
        have hTw := W.apart i T _ hMid
        obtain ⟨tx, hx2⟩ := hi.get i xs[i] (by simp [hlt])
        have hv : x = .int xs[i] tx := by
          have hP' : vs[i]? = some x := by simpa using hx
          rw [hx2] at hP'; exact (Option.some.inj hP').symm
        subst hv
        have up3 : ∀ b o, b ≠ e → b ≠ it → h'.get? b = some o → h₃.get? b = some o := fun b o h1 h2 q => hk₃ b o (nwr b h1 h2) (hk₂ b o (nwr b h1 h2) q)
        have hT3 : h₃.IsTuple T #[.int (i : Nat) t, .int xs[i] tx] := hT.at fun o q => hk₃ T o hTw q
        refine wpAny_assign_Tuple hh hT3 rfl rfl fun h₄ hx₄ => ?_
        replace hx₄ : Heap.ExtBut h₃.objs.size h₃ h₄ := hx₄
        have up4 : ∀ b o, h₃.get? b = some o → h₄.get? b = some o := fun b o q => hx₄ b o (Nat.ne_of_lt (Heap.lt_size q)) q
        have hCe : H2.objs.size ≠ e := Ne.symm (below e helt).1
        have hCi : H2.objs.size ≠ it := Ne.symm (below it hilt).1
        refine assignInOrder_cons (wpAny_assign_Name (wpAny_storeName_local (lookup_relabel_local hxi) (hn'.at' fun o q => up4 _ o (up3 _ o hCe hCi q)) (fun h₅ hn₅ hs₅ => ?_) (by simp [compEnvC, relabel, hkind])))
        refine assignInOrder_cons (wpAny_assign_Name (wpAny_storeName_local (lookup_relabel_local hxv) hn₅ (fun h₆ hn₆ hs₆ => ?_) (by simp [compEnvC, relabel, hkind])))
        refine assignInOrder_nil ?_
        have up6 : ∀ b o, b ≠ H2.objs.size → h₃.get? b = some o → h₆.get? b = some o := fun b o hb q => hs₆.extBut b o hb (hs₅.extBut b o hb (up4 b o q))
        have hst6 : ((∃ old, IsEnum h₆ e it (i + 1 : Nat) old) ∧ h₆.IsListIter it l (i + 1) ∧ h₆.IsList l vs.toArray) := W.frame _ _ _ hst₃ fun b hb o q => up6 b o (fun z => by
          have hb' : b = e ∨ b = it ∨ b = l := by simpa using hb
          rcases hb' with r | r | r
          · exact hCe (z.symm.trans r)
          · exact hCi (z.symm.trans r)
          · exact (below l hllt).1 (r.symm.trans z)) q
        have up : ∀ b o, b ≠ e → b ≠ it → b ≠ H2.objs.size → h'.get? b = some o → h₆.get? b = some o := fun b o h1 h2 h3 q => up6 b o h3 (up3 b o h1 h2 q)
        obtain ⟨oC, heC, hoC⟩ := ns_obj hn₆
        have F₆ : Fr h₀ L h₆ m := ⟨F'.ns.at' fun o q => up _ o hLe hLi (Ne.symm hCL) q, fun b o q => up b o (fun z => by rw [z, he₀] at q; cases q) (fun z => by rw [z, hi₀] at q; cases q) (fun z => by rw [z, hC₀] at q; cases q) (F'.keep b o q), F'.above⟩
        have N₆ : News h₀ L h₆ ((s₁.heap.objs.size, lst ys) :: news) := fun p hp => by
          have z := N' p hp
          refine ⟨up _ _ ?_ ?_ ?_ z.1, z.2⟩
          · rcases List.mem_cons.mp hp with rfl | hp
            · exact Ne.symm (below e helt).2
            · exact (off p hp).1
          · rcases List.mem_cons.mp hp with rfl | hp
            · exact Ne.symm (below it hilt).2
            · exact (off p hp).2
          · rcases List.mem_cons.mp hp with rfl | hp
            · exact hDC
            · exact (offN p hp).1
        have NC : News h₀ L h₆ ((H2.objs.size, oC) :: news) := fun p hp => by
          rcases List.mem_cons.mp hp with rfl | hp
          · exact ⟨heC, hCL, hC₀⟩
          · exact N₆ p (.tail _ hp)
        refine wpAny_mono (turn i xs[i] t tx H2.objs.size oC _ h₆ _ _ (by simp [hlt]) hoC (by simp [hxx]) (by simp) F₆ NC) (fun y s₇ h₇ => ?_) fun _ _ q => q
        obtain ⟨⟨tk₇, rfl⟩, hYi⟩ := h₇
        refine append_at (hsz := by show ys.toArray.size ≤ sizeLine; rw [List.size_toArray, hyl]; exact Nat.le_trans hin hsz) (N₆ _ (.head _)).1 fun h₈ hs₈ hD₈ => ?_
        refine ⟨xs.length + 1 - (i + 1), by omega, h₈, _, i + 1, ys ++ [y], _, rfl, hlt, rfl, by rw [List.length_append, List.length_singleton, hyl],
          W.frame _ _ _ hst6 fun b hb o q => hs₈.extBut b o (fun z => by
            have hb' : b = e ∨ b = it ∨ b = l := by simpa using hb
            rcases hb' with r | r | r
            · exact (below e helt).2 (r.symm.trans z)
            · exact (below it hilt).2 (r.symm.trans z)
            · exact (below l hllt).2 (r.symm.trans z)) q, F₆.change hs₈ hDL hD₀, (hoC.ns heC).sameBut hs₈ (Ne.symm hDC), fun p hp => ?_, fun j z hj => ?_⟩
        · rcases List.mem_cons.mp hp with rfl | hp
          · exact ⟨hD₈.trans (congrArg some (lst_snoc ys y)), hDL, hD₀⟩
          · exact ⟨hs₈.extBut _ _ (offN p hp).2 (N₆ p (.tail _ hp)).1, (N₆ p (.tail _ hp)).2⟩
        · by_cases hj2 : j < ys.length
          · rw [List.getElem?_append_left hj2] at hj
            exact hY j z hj
          · rw [List.getElem?_append_right (by omega)] at hj
            have h0 : j - ys.length = 0 := by
              have := (List.getElem?_eq_some_iff.mp hj).1
              simp at this
              omega
            rw [h0] at hj
            cases hj
            rw [show j = i by omega]
            exact hYi
      · obtain rfl : i = xs.length := Nat.le_antisymm hin (Nat.not_lt.mp hlt)
        refine W.done _ _ _ hst' fun h₂ tk₂ hk₂ => ?_
        have F₂ : Fr h₀ L h₂ m := ⟨F'.ns.at' fun o q => hk₂ _ o (nwr _ hLe hLi) q, fun b o q => hk₂ b o (nwr _ (fun z => by rw [z, he₀] at q; cases q) (fun z => by rw [z, hi₀] at q; cases q)) (F'.keep b o q), F'.above⟩
        have N₂ : News h₀ L h₂ ((s₁.heap.objs.size, lst ys) :: news) := fun p hp => by
          have z := N' p hp
          refine ⟨hk₂ _ _ (nwr _ ?_ ?_) z.1, z.2⟩
          · rcases List.mem_cons.mp hp with rfl | hp
            · exact Ne.symm (below e helt).2
            · exact (off p hp).1
          · rcases List.mem_cons.mp hp with rfl | hp
            · exact Ne.symm (below it hilt).2
            · exact (off p hp).2
        refine hRR _ _ h₂ tk₂ _ ys F₂ N₂ (hn'.at' fun o q => hk₂ _ o (nwr _ (Ne.symm (below e helt).1) (Ne.symm (below it hilt).1)) q) hC₀ hCL (fun p hp => ?_) (fun p hp => (offN p hp).2) hyl hY
        rcases List.mem_cons.mp hp with rfl | hp
        · exact hDC
        · exact (offN p hp).1
    · rcases List.mem_cons.mp hp with rfl | hp
      · exact ⟨hacc, hDL, hD₀⟩
      · exact ⟨old _ _ (N p hp).1, (N p hp).2⟩
  exact codeAny_compStart_list (loop _ rfl) (W.self 0 _ _ _ ⟨⟨.none, old _ _ hE⟩, hI.at fun o q => old _ o q, hl₁.at fun o q => old _ o q⟩ (loop _ rfl))
theorem ListComp_En {elt iter : PySem.Expr} {xi xv : Str} {pi pv tp : Pos} {kk : Nat} {scope : Scope} {cl : List (Str × Addr)} {pos : Pos} {Q : Value → Shared → Prop} (_F₀ : Fr h₀ L s.heap m)
    (hclos : closureFor scope env = pure cl) (hcell : ∀ y ∈ scope.names, y.2 ≠ .cell) (hkind : scope.kind = .function)
    (hnames : ∀ y ∈ scope.names, y.2 = .local → scope.names.lookup y.1 = some .local) (hxi : scope.names.lookup xi = some .local) (hxv : scope.names.lookup xv = some .local) (hxx : xi ≠ xv)
    (h : wpAny (model prog w) A (eval iter env) (SrcEn prog w A h₀ L m env elt xi xv scope cl Q) E s)
    (hs : ∀ x, foldedSetIterable iter env x = pure x := by intro _; rfl) :
    wpAny (model prog w) A (eval (.ListComp elt [⟨.Tuple [.Name xi pi, .Name xv pv] kk tp, iter, [], 0⟩] scope pos) env) Q E s := by
  rw [eval_ListComp]
  refine wpAny_comprehension_free (use := none) rfl hs hclos hkind hnames (wpAny_mono h (fun xw s₁ h₁ => ?_) fun _ _ e => e)
  obtain ⟨e, it, l, vs, k, xs, news, Y, rfl, hh, hei, hE, hI, hm, hi, hsz, F, N, off, hLe, hLi, he₀, hi₀, turn, done⟩ := h₁
  refine wpAny_pyIter_enum hE ?_
  refine block_En hcell hkind hxi hxv hxx hh hei hE hI hm hi hsz F N off hLe hLi he₀ hi₀ turn fun D C h tk m' ys F' N' hn hC₀ hCL offC offD hyl hY => ?_
  exact ⟨m', hn, fun h'' hs'' => done D h'' tk ys (F'.change hs'' hCL hC₀) (fun p hp => ⟨hs''.extBut _ _ (offC p hp) (N' p hp).1, (N' p hp).2⟩) offD hyl hY⟩

theorem src_enum {elt : PySem.Expr} {xi xv : Str} {scope : Scope} {cl : List (Str × Addr)} {Q : Value → Shared → Prop} {l : Addr} {vs : List Value} {k : Nat} {xs : List Int} {news : List (Addr × Obj)} (Y : Nat → Value → Prop)
    (hh : A.handled = none) (F : Fr h₀ L s.heap m) (N : News h₀ L s.heap news) (hm : (l, listOf vs.toArray k) ∈ news) (hi : IntsAre vs xs) (hsz : xs.length ≤ sizeLine)
    (turn : ∀ g i x t tx C oC m₂ h tk (E' : Value → Shared → Prop), xs[i]? = some x → NsObj oC m₂ → m₂ xi = some (.int (i : Nat) t) → m₂ xv = some (.int x tx) → Fr h₀ L h m → News h₀ L h ((C, oC) :: news) →
      wpAny (model prog w) A (eval elt (compEnvC scope cl C env)) (fun y s' => ElemIs { s with heap := g } h Y i y s') E' { { s with heap := g } with heap := h, toks := tk })
    (done : ∀ g D h tk ys, Fr h₀ L h m → News h₀ L h ((D, lst ys) :: news) → (∀ p ∈ news, p.1 ≠ D) → ys.length = xs.length → (∀ j y, ys[j]? = some y → Y j y) → Q (.ref D) { { s with heap := g } with heap := h, toks := tk }) :
    wpAny (model prog w) A (call (.type "enumerate") [.ref l]) (SrcEn prog w A h₀ L m env elt xi xv scope cl Q) E s := by
  have hax := N _ hm
  have hl : s.heap.IsList l vs.toArray := ⟨_, hax.1, rfl, k, rfl⟩
  have hLs : L < s.heap.objs.size := F.ns.lt
  refine call_enumerate_list hl fun h' hE hI hsz' hk => ?_
  refine ⟨s.heap.objs.size + 1, s.heap.objs.size, l, vs, k, xs, news, Y, rfl, hh, Nat.succ_ne_self _, hE, hI, hm, hi, hsz, F.keeps hk, N.grown hk, fun p hp => ?_, ktu_ne 1 hLs, Nat.ne_of_lt hLs, ktu_new F (Nat.le_add_right _ _), ktu_new F (Nat.le_refl _), turn h', done h'⟩
  have := Heap.lt_size (N p hp).1
  exact ⟨ktu_ne 1 this, Nat.ne_of_lt this⟩
end

end CompP
section WholeP
theorem ints_of : ∀ (ys : List Value) (f : Nat → Int), (∀ (j : Nat) (y : Value), ys[j]? = some y → ∃ t, y = .int (f j) t) → IntsAre ys ((List.range ys.length).map f)
  | [], _, _ => .nil
  | y :: r, f, h => by
    obtain ⟨t, rfl⟩ := h 0 y rfl
    rw [List.length_cons, List.range_succ_eq_map, List.map_cons, List.map_map]
    exact .cons _ _ (ints_of r (f ∘ Nat.succ) fun j z hz => h (j + 1) z (by simpa using hz))
theorem sum_mulL (B : Int) : ∀ l : List Int, (l.map fun x => B * x).sum = B * l.sum
  | [] => by simp
  | a :: r => by rw [List.map_cons, List.sum_cons, List.sum_cons, sum_mulL B r, Int.mul_add]
theorem sum_val (B : Int) : ∀ xs : List Int, ((List.range xs.length).map fun i => xs.getD i 0 * B ^ i).sum = val B xs
  | [] => rfl
  | a :: r => by
    rw [List.length_cons, List.range_succ_eq_map, List.map_cons, List.map_map, List.sum_cons]
    have e : ((fun i => (a :: r).getD i 0 * B ^ i) ∘ Nat.succ) = fun i => B * (r.getD i 0 * B ^ i) := by
      funext i
      show r.getD i 0 * B ^ (i + 1) = _
      rw [Int.pow_succ, ← Int.mul_assoc, Int.mul_comm B]
    rw [e]
    have := sum_mulL B ((List.range r.length).map fun i => r.getD i 0 * B ^ i)
    rw [List.map_map] at this
    have e2 : ((fun x => B * x) ∘ fun i => r.getD i 0 * B ^ i) = fun i => B * (r.getD i 0 * B ^ i) := rfl
    rw [e2] at this
    rw [this, sum_val B r]
    show a * B ^ 0 + B * val B r = a + B * val B r
    rw [Int.pow_zero, Int.mul_one]
theorem pow_pow {W : Int} (h : 0 ≤ W) (i : Nat) : (2 : Int) ^ (W * (i : Int)).toNat = ((2 : Int) ^ W.toNat) ^ i := by
  obtain ⟨k, rfl⟩ := Int.eq_ofNat_of_zero_le h
  rw [show ((k : Int) * (i : Int)).toNat = k * i by rw [show (k : Int) * (i : Int) = ((k * i : Nat) : Int) by push_cast; rfl, Int.toNat_natCast], Int.toNat_natCast, Int.pow_mul]
theorem getD_of {α : Type} {l : List α} {i : Nat} {x d : α} (h : l[i]? = some x) : l.getD i d = x := by
  rw [List.getD_eq_getElem?_getD, h]; rfl
set_option maxRecDepth 100000 in
set_option maxHeartbeats 1000000 in
theorem whole_con (w : World) (mean : ExcName → Option Value) (mg mb : Str → Option Value) (news : List (Addr × Obj)) (la : Addr) (ia : List Value) (na : Nat) (xs : List Int) (W : Int) (tw : Tok)
    (hma : (la, listOf ia.toArray na) ∈ news) (hia : IntsAre ia xs) (hla : (xs.length : Int) ≤ 60) (h2 : 3 ≤ W) (h3 : W ≤ 9) (gx : Good (2 ^ W.toNat) xs) :
    Con w mean mg mb 133 3 news [.ref la, .int W tw] (RInt news (val (2 ^ W.toNat) xs)) := by
  unfold Con
  k_fill
  w_top off
  k_with_none
  k_with "call builtin:len" => (k_here; (with_reducible show wpAny _ _ (call (Value.builtin "len") [Value.ref _]) _ _ _); k_dflt (refine' kst_len ?k1W9 ?k2W9 ?k3W9 ?k4W9 ?_; (case k1W9 => k_asm); (case k2W9 => k_mem); (case k3W9 => exact IntsAre.length (by assumption)); (case k4W9 => omega); k_whole))
  intro dp un gd cn cs a ccd cl outer A₀ base h₀ L m s Q E B F X N T hk hd hu hret
  refine wpAny_call ?_
  k_dflt (refine' code_defC ?k1 ?k2 ?k3 ?k4 ?k5 ?kA ?kF ?kK ?k6 ?k7 ?k8 ?k9 ?kB ?kD ?_ ?c2 ?c3 ?c4; (case kA => exact rfl); (case kF => exact rfl); (case kK => assumption); (case k1 => k_asm); (case k2 => k_asm); (case k3 => k_asm); (case k4 => k_asm); (case k5 => k_asm); (case k6 => k_is); (case k7 => k_is); (case k8 => ktr_room); (case k9 => exact BindsTo.of_eq rfl); (case kB => exact rfl); (case kD => decide +kernel); (case c2 => exact rfl); (case c3 => exact rfl); (case c4 => exact rfl); k_whole; intro g' L' h' tk' cells' FG' F' N' Y' B' X' T' l1; k_cells Y'; (try simp only [List.cons_append, List.nil_append] at N'); (try dsimp only); (try k_fold))
  repeat' (first | (k_unfold; (try dsimp only)) | ((fail_if_success (with_reducible show wpAny _ _ (eval (Expr.ListComp _ _ _ _) _) _ _ _)); first | (k_end; wrow_close) | walk1 | (dsimp only; walk1) | (leave1; walk_say "STEP leave1"; try dsimp only) | fail "no step"))
  k_dflt (rename Fr _ _ _ _ => F0; refine ListComp_En F0 (by rfl) (by decide) (by rfl) (by decide) (by rfl) (by rfl) (by decide +kernel) ?_)
  repeat' (first | (k_unfold; (try dsimp only)) | ((fail_if_success (with_reducible show wpAny _ _ (call (Value.type "enumerate") _) _ _ _)); first | (k_end; wrow_close) | walk1 | (dsimp only; walk1) | (leave1; walk_say "STEP leave1"; try dsimp only) | fail "no step"))
  refine src_enum (fun i y => ∃ t, y = .int (xs.getD i 0 * 2 ^ (W * (i : Int)).toNat) t) (by rfl) (by assumption) (by assumption) (.tail _ hma) hia (by rw [PySem.sizeLine_eq]; omega) ?_ ?_
  · intro g i x t tx C oC m₂ h tk E' hx hC hm1 hm2 F1 N1
    have hxb := gx x (List.mem_of_getElem? hx)
    have hil : i < xs.length := (List.getElem?_eq_some_iff.mp hx).1
    have hB0 := pow_le512 h3
    have hx0 := hxb.1
    have hx1 : x < 512 := by omega
    have hWi0 : 0 ≤ W * (i : Int) := Int.mul_nonneg (by omega) (by omega)
    have hWi1 : W * (i : Int) ≤ 9 * 60 := Int.mul_le_mul h3 (by omega) (by omega) (by decide)
    try k_fold
    k_steps
    exact ElemIs.intro ⟨_, by rw [getD_of hx]⟩
  · intro g D h tk ys F1 N1 hD hyl hY
    have hint := ints_of ys _ hY
    have hln : ys.length = xs.length := hyl
    have hsum : (((List.range ys.length).map fun j => xs.getD j 0 * 2 ^ (W * (j : Int)).toNat)).sum = val (2 ^ W.toNat) xs := by
      rw [hln, ← sum_val]
      congr 1
      refine List.map_congr_left fun j _ => ?_
      rw [pow_pow (by omega)]
    have hlm : ((List.range ys.length).map fun j => xs.getD j 0 * 2 ^ (W * (j : Int)).toNat).length = xs.length := by rw [List.length_map, List.length_range, hln]
    generalize ((List.range ys.length).map fun j => xs.getD j 0 * 2 ^ (W * (j : Int)).toNat) = ms at hint hsum hlm
    try k_fold
    k_steps
    exact ret_int hret (by assumption) (by assumption) (fun _ h => by first | exact h | exact .tail _ h | exact .tail _ (.tail _ h)) hsum
theorem whole_dig (w : World) (mean : ExcName → Option Value) (mg mb : Str → Option Value) (news : List (Addr × Obj)) (la : Addr) (ia : List Value) (na : Nat) (n : Nat) (W : Int) (tw : Tok)
    (hma : (la, listOf ia.toArray na) ∈ news) (hia : IntsAre ia (dig (2 ^ W.toNat) n)) (hn : n < 1152921504606846976) (h2 : 3 ≤ W) (h3 : W ≤ 9) :
    Con w mean mg mb 133 3 news [.ref la, .int W tw] (RInt news (n : Nat)) := by
  have hW := pow_ge2 h2
  have lf := dig_len hW 60 n hn
  have gf := good_dig hW n
  have vf := val_dig hW n
  rw [kbt_cast] at gf vf
  have := whole_con w mean mg mb news la ia na _ W tw hma hia (by omega) h2 h3 gf
  rw [vf] at this
  exact this

end WholeP
section RangeP
section
open PySem.Calls PyProof.V PySem.Spec
variable {prog : Program} {w : World} {A : Around} {E : Value → Shared → Prop} {s : Shared} {env : Env} {h₀ : Heap} {x : Str} {body : List Stmt} {Q : Flow → Shared → Prop}

/-- a for over a range of any step, by what holds of a state -/
theorem range_st {σ : Type} {r L : Addr} {a₀ b₀ c : Int} {t₀ u₀ v₀ : Tok} {n : Nat} {m₀ : Str → Option Value} (Led : σ → List (Addr × Obj)) (ps : σ → List (Str × Value)) (stored : List Str) (P : Nat → σ → Prop) (c₀ : σ)
    (hh : A.handled = none) (hr : IsRange s.heap r a₀ b₀ c t₀ u₀ v₀) (hsmall : Builtin.Range.small a₀ b₀ c = true) (hn : Builtin.Range.rangeSize a₀ b₀ c = (n : Int))
    (F : Fr h₀ L s.heap m₀) (N : News h₀ L s.heap (Led c₀)) (hj : P 0 c₀) (hk : ∀ p ∈ ps c₀, m₀ p.1 = some p.2)
    (turn : ∀ c' i t (u : Str → Option Value) h tk own, i < n → OwnOff own ((Led c₀).map (·.1)) → P i c' →
      Fr h₀ L h (fun y => if y = x then some (.int (a₀ + (i : Int) * c) t) else kstB (fun z => if stored.contains z then u z else m₀ z) (ps c') y) → News h₀ L h (Led c' ++ own) →
      wpAny (model prog w) A (execs body env) (InvPostN h₀ L (EnS Led ps stored m₀ P (i + 1)) own ((Led c₀).map (·.1)) { s with heap := h, toks := tk } Q) E { s with heap := h, toks := tk })
    (done : ∀ c' (u : Str → Option Value) h tk, P n c' → Fr h₀ L h (kstB (fun z => if stored.contains z then u z else m₀ z) (ps c')) → News h₀ L h (Led c') → Q .next { s with heap := h, toks := tk }) (hL : env.locals = L := by rfl) :
    wpAny (model prog w) A (pyIter (.ref r)) (fun it s₂ => LoopAtV prog w A h₀ env x body Q E it s₂) E s := by
  subst hL
  refine wpAny_pyIter_range hr hsmall ?_
  have W : Walks prog w A s.heap.objs.size [s.heap.objs.size] [s.heap.objs.size] n (fun i v => i < n ∧ ∃ t, v = .int (a₀ + i * c) t)
      (fun i h => IsRangeIter h s.heap.objs.size (a₀ + (i : Nat) * c) ((n : Int) - (i : Nat)) c) := (Walks.range hh _ a₀ c n).bound
  refine loop_invN (fun i m nx => EnS Led ps stored m₀ P i m nx) W ?_ ?_ ?_ ?_ (by show IsRangeIter _ _ _ _ _; rw [hn]; simpa using Heap.get?_push_size _ rfl) (F.push _) (fun p hp => ⟨Heap.get?_push_of_some _ (N p hp).1, (N p hp).2⟩) ⟨c₀, rfl, hj, hk, fun _ _ => rfl⟩ ?_ ?_
  · intro hm
    exact absurd F.ns.lt ((List.mem_singleton.mp hm) ▸ Nat.lt_irrefl _)
  · intro b hb
    rw [List.mem_singleton.mp hb]
    exact next_is_new F
  · intro p hp hI
    exact absurd (Heap.lt_size (N p hp).1) ((List.mem_singleton.mp hI) ▸ Nat.lt_irrefl _)
  · intro p hp hI
    exact absurd (Heap.lt_size (N p hp).1) ((List.mem_singleton.mp hI) ▸ Nat.lt_irrefl _)
  · rintro i v m₁ nx h tk own hi ⟨_, t, rfl⟩ _ hoff ⟨c', rfl, hp', h1, h2⟩ F₁ N₁
    rw [en_fr (h := h) (L := env.locals) h1 h2] at F₁
    exact turn c' i t m₁ h tk own hi hoff hp' F₁ N₁
  · rintro m₁ nx h tk ⟨c', rfl, hp', h1, h2⟩ F₁ N₁
    rw [en_fr (h := h) (L := env.locals) h1 h2] at F₁
    exact done c' m₁ h tk hp' F₁ N₁

/-- a for over a list of ints that the ledger bears, by what holds of a state -/
theorem list_st {σ : Type} {l L : Addr} {vs : List Value} {ns : List Int} {nn : Nat} {m₀ : Str → Option Value} (Led : σ → List (Addr × Obj)) (ps : σ → List (Str × Value)) (stored : List Str) (P : Nat → σ → Prop) (c₀ : σ)
    (hh : A.handled = none) (hm : ∀ c, (l, listOf vs.toArray nn) ∈ Led c) (hi : IntsAre vs ns) (F : Fr h₀ L s.heap m₀) (N : News h₀ L s.heap (Led c₀)) (hj : P 0 c₀) (hk : ∀ p ∈ ps c₀, m₀ p.1 = some p.2)
    (turn : ∀ c' i n t (u : Str → Option Value) h tk own, ns[i]? = some n → OwnOff own ((Led c₀).map (·.1)) → P i c' →
      Fr h₀ L h (fun y => if y = x then some (.int n t) else kstB (fun z => if stored.contains z then u z else m₀ z) (ps c') y) → News h₀ L h (Led c' ++ own) →
      wpAny (model prog w) A (execs body env) (InvPostN h₀ L (EnS Led ps stored m₀ P (i + 1)) own ((Led c₀).map (·.1)) { s with heap := h, toks := tk } Q) E { s with heap := h, toks := tk })
    (done : ∀ c' (u : Str → Option Value) h tk, P ns.length c' → Fr h₀ L h (kstB (fun z => if stored.contains z then u z else m₀ z) (ps c')) → News h₀ L h (Led c') → Q .next { s with heap := h, toks := tk }) (hL : env.locals = L := by rfl) :
    wpAny (model prog w) A (pyIter (.ref l)) (fun it s₂ => LoopAtV prog w A h₀ env x body Q E it s₂) E s := by
  subst hL
  refine iter_invNL (fun i m nx => EnS Led ps stored m₀ P i m nx) hh (hm c₀) hi F N ⟨c₀, rfl, hj, hk, fun _ _ => rfl⟩ ?_ ?_
  · rintro i n t m₁ nx h tk own hn _ hoff _ ⟨c', rfl, hp', h1, h2⟩ F₁ N₁
    rw [en_fr (h := h) (L := env.locals) h1 h2] at F₁
    refine wpAny_mono (turn c' i n t m₁ h tk own hn hoff hp' F₁ N₁) (fun f s₂ p => ?_) fun _ _ e => e
    have up : InvEndN h₀ env.locals (EnS Led ps stored m₀ P (i + 1)) own ((Led c₀).map (·.1)) { s with heap := h, toks := tk } s₂ →
        InvEndN h₀ env.locals (fun m' nx => (l, listOf vs.toArray nn) ∈ nx ∧ EnS Led ps stored m₀ P (i + 1) m' nx) own ((Led c₀).map (·.1)) { s with heap := h, toks := tk } s₂ := by
      rintro ⟨h', tk', m', news', nx, e', F', N', hn', ho', ha, hS⟩
      refine ⟨h', tk', m', news', nx, e', F', N', hn', ho', ha, ?_, hS⟩
      obtain ⟨c9, rfl, _⟩ := hS
      exact hm c9
    cases f with
    | ret v => exact p
    | brk => exact p
    | next => exact up p
    | cont => exact up p
  · rintro m₁ nx h tk _ ⟨c', rfl, hp', h1, h2⟩ F₁ N₁
    rw [en_fr (h := h) (L := env.locals) h1 h2] at F₁
    exact done c' m₁ h tk hp' F₁ N₁
end
section
open PySem.Calls
variable {prog : Program} {w : World} {A : Around} {E : Value → Shared → Prop} {s : Shared} {h₀ : Heap} {L D : Addr} {m : Str → Option Value} {news news' : List (Addr × Obj)} {n : Nat} {k : Int} {t u : Tok}
theorem at_set {vs : List Value} {v : Value} {Q : Unit → Shared → Prop} (F : Fr h₀ L s.heap m) (N : News h₀ L s.heap news) (U : Upd D (listOf vs.toArray n) (listOf (vs.set k.toNat v).toArray n) news news') (h0 : 0 ≤ k) (h1 : k < vs.length) (hfit : k < 2 ^ 63)
    (h : ∀ h', Fr h₀ L h' m → News h₀ L h' news' → Q () { s with heap := h' }) :
    wpAny (model prog w) A (setItem (.ref D) (.int k t) v) Q E s := by
  obtain ⟨pre, post, rfl, rfl, a, b⟩ := U.split
  have z := N (D, listOf vs.toArray n) (List.mem_append.mpr (.inr (.head _)))
  have hs : vs.toArray.size = vs.length := by rw [List.size_toArray]
  refine ki_setAt z.1 h0 hfit (by omega) (h _ (F.change (Heap.SameBut.update ..) z.2.1 z.2.2) (ki_turn _ N a b ?_ ?_))
  · show vs.toArray.setIfInBounds k.toNat v = (vs.set k.toNat v).toArray
    apply Array.toList_inj.mp
    simp
  · simp
theorem at_set_bool {bs : List Bool} {b : Bool} {Q : Unit → Shared → Prop} (F : Fr h₀ L s.heap m) (N : News h₀ L s.heap news) (U : Upd D (listOf (bs.map Value.bool).toArray n) (listOf ((bs.set k.toNat b).map Value.bool).toArray n) news news') (h0 : 0 ≤ k) (h1 : k < bs.length) (hfit : k < 2 ^ 63)
    (h : ∀ h', Fr h₀ L h' m → News h₀ L h' news' → Q () { s with heap := h' }) :
    wpAny (model prog w) A (setItem (.ref D) (.int k t) (.bool b)) Q E s := by
  refine at_set (n := n) (vs := bs.map Value.bool) F N ?_ h0 (by rw [List.length_map]; exact h1) hfit h
  rw [← List.map_set]
  exact U
theorem at_bools {value slice : PySem.Expr} {bs : List Bool} {Q : Value → Shared → Prop}
    (N : News h₀ L s.heap news) (hm : (D, listOf (bs.map Value.bool).toArray n) ∈ news) (h0 : 0 ≤ k) (h1 : k < bs.length) (hhi : k < 2 ^ 63) (h : Q (.bool (bs.getD k.toNat false)) s)
    (hs : subscripted slice false (.ref D) (.int k u) = operate [.ref D, .int k u] (getItem (.ref D) (.int k u))) :
    wpAny (model prog w) A (subscriptTail value slice (.ref D) (.int k u)) Q E s := by
  refine at_list N hm h0 hhi (v := .bool (bs.getD k.toNat false)) ?_ h hs
  have : k.toNat < bs.length := by omega
  rw [List.getElem?_map, List.getElem?_eq_getElem this, List.getD_eq_getElem?_getD, List.getElem?_eq_getElem this]
  rfl
end

noncomputable def Led2 (D1 D2 : Addr) (rest : List (Addr × Obj)) (c : (List Bool × Nat) × List Value × List Int × Nat) : List (Addr × Obj) := (D1, listOf (List.toArray (c.1.1.map Value.bool)) c.1.2) :: (D2, listOf (List.toArray c.2.1) c.2.2.2) :: rest
noncomputable def Pr2 (P : Nat → List Bool → List Int → Prop) (i : Nat) (c : (List Bool × Nat) × List Value × List Int × Nat) : Prop := IntsAre c.2.1 c.2.2.1 ∧ P i c.1.1 c.2.2.1
noncomputable def Ps2 (_ : (List Bool × Nat) × List Value × List Int × Nat) : List (Str × Value) := []
noncomputable def LedB (D : Addr) (rest : List (Addr × Obj)) (c : List Bool × Nat) : List (Addr × Obj) := (D, listOf (List.toArray (c.1.map Value.bool)) c.2) :: rest
noncomputable def PrB (P : Nat → List Bool → Prop) (i : Nat) (c : List Bool × Nat) : Prop := P i c.1
noncomputable def PsB (_ : List Bool × Nat) : List (Str × Value) := []
section
open PySem.Calls PyProof.V PySem.Spec
variable {prog : Program} {w : World} {A : Around} {E : Value → Shared → Prop} {s : Shared} {env : Env} {h₀ : Heap} {x : Str} {body : List Stmt} {Q : Flow → Shared → Prop}
theorem en_end2 {D1 D2 : Addr} {rest : List (Addr × Obj)} {stored : List Str} {m₀ : Str → Option Value} {P : Nat → List Bool → List Int → Prop} {i : Nat} {L : Addr} {own news' : List (Addr × Obj)} {s₁ : Shared} {h' : Heap} {tk : Nat} {m' : Str → Option Value} {bs : List Bool} {k : Nat} {its : List Value} {fs : List Int} {n : Nat}
    (F : Fr h₀ L h' m') (N : News h₀ L h' news') (h1 : (D1, listOf (bs.map Value.bool).toArray k) ∈ news') (h2 : (D2, listOf its.toArray n) ∈ news') (hs : ∀ p ∈ rest ++ own, p ∈ news') (hi : IntsAre its fs) (hp : P i bs fs) (hr : ∀ z, stored.contains z = false → m' z = m₀ z) :
    InvEndN h₀ L (EnS (Led2 D1 D2 rest) Ps2 stored m₀ (Pr2 P) i) own (D1 :: D2 :: rest.map (·.1)) s₁ { s₁ with heap := h', toks := tk } :=
  en_end ((bs, k), its, fs, n) F N (fun p hp => by
    rcases List.mem_cons.mp hp with rfl | hp
    · exact h1
    rcases List.mem_cons.mp hp with rfl | hp
    · exact h2
    · exact hs p (List.mem_append_left _ hp)) (fun p hp => hs p (List.mem_append_right _ hp)) rfl ⟨hi, hp⟩ (fun _ h => nomatch h) hr
theorem en_endB {D : Addr} {rest : List (Addr × Obj)} {stored : List Str} {m₀ : Str → Option Value} {P : Nat → List Bool → Prop} {i : Nat} {L : Addr} {own news' : List (Addr × Obj)} {s₁ : Shared} {h' : Heap} {tk : Nat} {m' : Str → Option Value} {bs : List Bool} {k : Nat}
    (F : Fr h₀ L h' m') (N : News h₀ L h' news') (h1 : (D, listOf (bs.map Value.bool).toArray k) ∈ news') (hs : ∀ p ∈ rest ++ own, p ∈ news') (hp : P i bs) (hr : ∀ z, stored.contains z = false → m' z = m₀ z) :
    InvEndN h₀ L (EnS (LedB D rest) PsB stored m₀ (PrB P) i) own (D :: rest.map (·.1)) s₁ { s₁ with heap := h', toks := tk } :=
  en_end (bs, k) F N (fun p hp => by
    rcases List.mem_cons.mp hp with rfl | hp
    · exact h1
    · exact hs p (List.mem_append_left _ hp)) (fun p hp => hs p (List.mem_append_right _ hp)) rfl hp (fun _ h => nomatch h) hr
theorem app_ne2 {D1 D2 : Addr} {rest own : List (Addr × Obj)} (h : ∀ p ∈ rest, p.1 ≠ D2) (o : OwnOff own (D1 :: D2 :: rest.map (·.1))) : ∀ p ∈ rest ++ own, p.1 ≠ D2 := fun p hp => by
  rcases List.mem_append.mp hp with hp | hp
  · exact h p hp
  · exact o p hp D2 (.tail _ (.head _))
theorem app_ne1 {D1 D2 : Addr} {rest own : List (Addr × Obj)} (h : ∀ p ∈ rest, p.1 ≠ D1) (o : OwnOff own (D1 :: D2 :: rest.map (·.1))) : ∀ p ∈ rest ++ own, p.1 ≠ D1 := fun p hp => by
  rcases List.mem_append.mp hp with hp | hp
  · exact h p hp
  · exact o p hp D1 (.head _)
theorem range_two {D1 D2 : Addr} {rest : List (Addr × Obj)} {bs0 : List Bool} {k0 : Nat} {its0 : List Value} {fs0 : List Int} {n0 : Nat} {r L : Addr} {a₀ b₀ c : Int} {t₀ u₀ v₀ : Tok} {n : Nat} {m₀ : Str → Option Value} (stored : List Str) (P : Nat → List Bool → List Int → Prop)
    (hh : A.handled = none) (hr : IsRange s.heap r a₀ b₀ c t₀ u₀ v₀) (hsmall : Builtin.Range.small a₀ b₀ c = true) (hn : Builtin.Range.rangeSize a₀ b₀ c = (n : Int))
    (F : Fr h₀ L s.heap m₀) (N : News h₀ L s.heap ((D1, listOf (bs0.map Value.bool).toArray k0) :: (D2, listOf its0.toArray n0) :: rest)) (h1 : ∀ p ∈ rest, p.1 ≠ D1) (h2 : ∀ p ∈ rest, p.1 ≠ D2) (hi0 : IntsAre its0 fs0) (hj : P 0 bs0 fs0)
    (turn : ∀ bs k its fs j i t (u : Str → Option Value) h tk own, i < n → (∀ p ∈ rest ++ own, p.1 ≠ D1) → (∀ p ∈ rest ++ own, p.1 ≠ D2) → IntsAre its fs → P i bs fs →
      Fr h₀ L h (fun y => if y = x then some (.int (a₀ + (i : Int) * c) t) else if stored.contains y then u y else m₀ y) → News h₀ L h ((D1, listOf (bs.map Value.bool).toArray k) :: (D2, listOf its.toArray j) :: (rest ++ own)) →
      wpAny (model prog w) A (execs body env) (InvPostN h₀ L (EnS (Led2 D1 D2 rest) Ps2 stored m₀ (Pr2 P) (i + 1)) own (D1 :: D2 :: rest.map (·.1)) { s with heap := h, toks := tk } Q) E { s with heap := h, toks := tk })
    (done : ∀ bs k its fs j (u : Str → Option Value) h tk, IntsAre its fs → P n bs fs → Fr h₀ L h (fun z => if stored.contains z then u z else m₀ z) → News h₀ L h ((D1, listOf (bs.map Value.bool).toArray k) :: (D2, listOf its.toArray j) :: rest) → Q .next { s with heap := h, toks := tk }) (hL : env.locals = L := by rfl) :
    wpAny (model prog w) A (pyIter (.ref r)) (fun it s₂ => LoopAtV prog w A h₀ env x body Q E it s₂) E s :=
  range_st (Led2 D1 D2 rest) Ps2 stored (Pr2 P) ((bs0, k0), its0, fs0, n0) hh hr hsmall hn F N ⟨hi0, hj⟩ (fun _ h => nomatch h)
    (fun c' i t u h tk own hi ho hc F' N' => turn c'.1.1 c'.1.2 c'.2.1 c'.2.2.1 c'.2.2.2 i t u h tk own hi (app_ne1 h1 ho) (app_ne2 h2 ho) hc.1 hc.2 F' N')
    (fun c' u h tk hc F' N' => done c'.1.1 c'.1.2 c'.2.1 c'.2.2.1 c'.2.2.2 u h tk hc.1 hc.2 F' N') hL
theorem range_bools {D : Addr} {rest : List (Addr × Obj)} {bs0 : List Bool} {k0 : Nat} {r L : Addr} {a₀ b₀ c : Int} {t₀ u₀ v₀ : Tok} {n : Nat} {m₀ : Str → Option Value} (stored : List Str) (P : Nat → List Bool → Prop)
    (hh : A.handled = none) (hr : IsRange s.heap r a₀ b₀ c t₀ u₀ v₀) (hsmall : Builtin.Range.small a₀ b₀ c = true) (hn : Builtin.Range.rangeSize a₀ b₀ c = (n : Int))
    (F : Fr h₀ L s.heap m₀) (N : News h₀ L s.heap ((D, listOf (bs0.map Value.bool).toArray k0) :: rest)) (h1 : ∀ p ∈ rest, p.1 ≠ D) (hj : P 0 bs0)
    (turn : ∀ bs k i t (u : Str → Option Value) h tk own, i < n → (∀ p ∈ rest ++ own, p.1 ≠ D) → P i bs →
      Fr h₀ L h (fun y => if y = x then some (.int (a₀ + (i : Int) * c) t) else if stored.contains y then u y else m₀ y) → News h₀ L h ((D, listOf (bs.map Value.bool).toArray k) :: (rest ++ own)) →
      wpAny (model prog w) A (execs body env) (InvPostN h₀ L (EnS (LedB D rest) PsB stored m₀ (PrB P) (i + 1)) own (D :: rest.map (·.1)) { s with heap := h, toks := tk } Q) E { s with heap := h, toks := tk })
    (done : ∀ bs k (u : Str → Option Value) h tk, P n bs → Fr h₀ L h (fun z => if stored.contains z then u z else m₀ z) → News h₀ L h ((D, listOf (bs.map Value.bool).toArray k) :: rest) → Q .next { s with heap := h, toks := tk }) (hL : env.locals = L := by rfl) :
    wpAny (model prog w) A (pyIter (.ref r)) (fun it s₂ => LoopAtV prog w A h₀ env x body Q E it s₂) E s :=
  range_st (LedB D rest) PsB stored (PrB P) (bs0, k0) hh hr hsmall hn F N hj (fun _ h => nomatch h)
    (fun c' i t u h tk own hi ho hc F' N' => turn c'.1 c'.2 i t u h tk own hi (app_ne h1 ho) hc F' N')
    (fun c' u h tk hc F' N' => done c'.1 c'.2 u h tk hc F' N') hL
end

end RangeP
section SieveP
noncomputable def cntS (n one : Nat) : Nat := if one * one ≤ n then (n - one * one) / one + 1 else 0
noncomputable def markS (one : Nat) (k : Nat) (bs : List Bool) : List Bool := (List.range k).foldl (fun b j => b.set (one * one + one * j) false) bs
noncomputable def stepS (n : Nat) (st : List Bool × List Int) (one : Nat) : List Bool × List Int := if st.1.getD one false then (markS one (cntS n one) st.1, st.2 ++ [(one : Int)]) else st
noncomputable def runS (n k : Nat) : List Bool × List Int := (List.range k).foldl (fun st i => stepS n st (2 + i)) (List.replicate (n + 1) true, [])
/-- the primes up to n, as the code finds them -/
noncomputable def sieveP (n : Nat) : List Int := (runS n (n - 1)).2
theorem markS_succ (one k : Nat) (bs : List Bool) : markS one (k + 1) bs = (markS one k bs).set (one * one + one * k) false := by
  unfold markS
  rw [List.range_succ, List.foldl_append]
  rfl
theorem markS_len (one : Nat) (bs : List Bool) : ∀ k, (markS one k bs).length = bs.length
  | 0 => rfl
  | k + 1 => by rw [markS_succ, List.length_set, markS_len one bs k]
theorem runS_succ (n k : Nat) : runS n (k + 1) = stepS n (runS n k) (2 + k) := by
  unfold runS
  rw [List.range_succ, List.foldl_append]
  rfl
theorem stepS_len (n : Nat) (st : List Bool × List Int) (one : Nat) : (stepS n st one).1.length = st.1.length := by
  unfold stepS
  split
  · exact markS_len _ _ _
  · rfl
theorem runS_len (n : Nat) : ∀ k, (runS n k).1.length = n + 1
  | 0 => List.length_replicate
  | k + 1 => by rw [runS_succ, stepS_len, runS_len n k]
theorem stepS_flen (n : Nat) (st : List Bool × List Int) (one : Nat) : (stepS n st one).2.length ≤ st.2.length + 1 := by
  unfold stepS
  split
  · simp
  · exact Nat.le_succ _
theorem runS_flen (n : Nat) : ∀ k, (runS n k).2.length ≤ k
  | 0 => Nat.le_refl _
  | k + 1 => by
    rw [runS_succ]
    have := stepS_flen n (runS n k) (2 + k)
    have := runS_flen n k
    omega
theorem sizeS {n one : Int} (h0 : 0 ≤ n) (h1 : 2 ≤ one) : Builtin.Range.rangeSize (one * one) (n + 1) one = (cntS n.toNat one.toNat : Nat) := by
  obtain ⟨n, rfl⟩ := Int.eq_ofNat_of_zero_le h0
  obtain ⟨one, rfl⟩ := Int.eq_ofNat_of_zero_le (show 0 ≤ one by omega)
  unfold Builtin.Range.rangeSize cntS
  simp only [Int.toNat_natCast]
  rw [if_pos (by omega)]
  by_cases h : one * one ≤ n
  · have h' : (one : Int) * one < (n : Int) + 1 := by exact_mod_cast Nat.lt_succ_of_le h
    rw [if_pos h', if_pos h]
    have e : (n : Int) + 1 - (one : Int) * (one : Int) - 1 = ((n - one * one : Nat) : Int) := by
      rw [Int.ofNat_sub h]; push_cast; omega
    rw [e]
    push_cast
    rfl
  · have h' : ¬ (one : Int) * one < (n : Int) + 1 := by
      intro q
      exact h (Nat.le_of_lt_succ (by exact_mod_cast q))
    rw [if_neg h', if_neg h]
    rfl
theorem smallS0 : ∀ n : Fin 31, ∀ i : Fin 30, Builtin.Range.small ((2 + (i.val : Int) * 1) * (2 + (i.val : Int) * 1)) ((n.val : Int) + 1) (2 + (i.val : Int) * 1) = true := by decide +kernel
theorem smallS {n : Int} {i : Nat} (h0 : 0 ≤ n) (h1 : n ≤ 30) (hi : i < 30) : Builtin.Range.small ((2 + (i : Int) * 1) * (2 + (i : Int) * 1)) (n + 1) (2 + (i : Int) * 1) = true := by
  obtain ⟨k, rfl⟩ := Int.eq_ofNat_of_zero_le h0
  exact smallS0 ⟨k, by omega⟩ ⟨i, hi⟩
theorem idxS {n : Nat} {i q : Nat} (hq : q < cntS n (2 + i)) : (2 + i) * (2 + i) + (2 + i) * q ≤ n := by
  unfold cntS at hq
  split at hq
  · rename_i h
    have h1 : q ≤ (n - (2 + i) * (2 + i)) / (2 + i) := by omega
    have h2 := Nat.mul_le_of_le_div _ _ _ h1
    rw [Nat.mul_comm] at h2
    omega
  · omega
theorem eS (i q : Nat) : ((2 + (i : Int) * 1) * (2 + (i : Int) * 1) + (q : Int) * (2 + (i : Int) * 1)) = (((2 + i) * (2 + i) + (2 + i) * q : Nat) : Int) := by
  push_cast
  rw [Int.mul_one, Int.mul_comm (q : Int)]
theorem rep_bools (b : Bool) (k : Nat) : (List.replicate k [Value.bool b]).flatten = (List.replicate k b).map Value.bool := by
  rw [flat_rep, List.map_replicate]
set_option maxRecDepth 100000 in
set_option maxHeartbeats 2000000 in
theorem sieve_con (w : World) (mean : ExcName → Option Value) (mg mb : Str → Option Value) (news : List (Addr × Obj)) (n : Int) (t1 : Tok) (h0 : 0 ≤ n) (h1 : n ≤ 30) :
    Con w mean mg mb 60 1 news [.int n t1] (RList news (sieveP n.toNat)) := by
  unfold Con
  k_fill
  w_top off
  k_with_none
  k_with "call builtin:len" => (k_here; (with_reducible show wpAny _ _ (call (Value.builtin "len") [Value.ref _]) _ _ _); k_dflt (refine' kst_len ?k1W9 ?k2W9 ?k3W9 ?k4W9 ?_; (case k1W9 => k_asm); (case k2W9 => k_mem); (case k3W9 => exact IntsAre.length (by assumption)); (case k4W9 => omega); k_whole))
  k_with "binaryOp Mult ref int" => (k_here; (with_reducible show wpAny _ _ (binaryOp Operator.Mult (Value.ref _) (Value.int _ _)) _ _ _); k_dflt (refine' KMa.mul ?FW9 ?NW9 ?lW9 ?loW9 ?hiW9 ?zW9 ?eW9 ?_; (case FW9 => k_asm); (case NW9 => k_asm); (case lW9 => exact news_list (vs := [_]) (by assumption) (by k_mem)); (case loW9 => omega); (case hiW9 => omega); (case zW9 => (simp only [List.length_cons, List.length_nil]; omega)); (case eW9 => exact Mine.rep_bools _ _); k_whole); intro D' h' F' N' l1; (try k_lt l1); (try k_sweep))
  k_with "subscriptTail" => (k_here; (with_reducible show wpAny _ _ (subscriptTail _ _ (Value.ref _) (Value.int _ _)) _ _ _); (with_unfolding_all refine' at_bools ?k1W9 ?k2W9 ?k3W9 ?k4W9 ?k5W9 ?_ ?k6W9); (case k1W9 => assumption); (case k2W9 => k_mem); (case k3W9 => omega); (case k4W9 => omega); (case k5W9 => omega); (case k6W9 => with_unfolding_all rfl); k_whole)
  k_with "setItem ref int" => (k_here; (with_reducible show wpAny _ _ (setItem (Value.ref _) (Value.int _ _) (Value.bool _)) _ _ _); k_dflt (refine' at_set_bool ?k1W9 ?k2W9 ?k3W9 ?k4W9 ?k5W9 ?k6W9 ?_; (case k1W9 => k_asm); (case k2W9 => k_asm); (case k3W9 => k_upd); (case k4W9 => first | with_reducible assumption | omega); (case k5W9 => first | with_reducible assumption | omega); (case k6W9 => first | with_reducible assumption | omega); k_whole); intro h' F' N'; (try k_sweep))
  intro dp un gd cn cs a ccd cl outer A₀ base h₀ L m s Q E B F X N T hk hd hu hret
  refine wpAny_call ?_
  k_dflt ktr_enter
  repeat' (first | (k_unfold; (try dsimp only)) | ((fail_if_success (with_reducible show wpAny _ _ (exec (Stmt.For _ _ _ _ _) _) _ _ _)); first | (k_end; wrow_close) | walk1 | (dsimp only; walk1) | (leave1; walk_say "STEP leave1"; try dsimp only) | fail "no step"))
  rename Fr _ _ _ _ => F0
  rename News _ _ _ _ => N0
  rename (_ < _ ∧ _ < _ ∧ _) => hlt0
  rename (_ < _ ∧ AllLt _ _) => hlt1
  have N1 := kst_newsOf (l' := _ :: _ :: news) N0 (fun p hp => by
    rcases List.mem_cons.mp hp with h | hp
    · exact h ▸ .tail _ (.head _)
    rcases List.mem_cons.mp hp with h | hp
    · exact h ▸ .head _
    exact .tail _ (.tail _ (.tail _ hp)))
  clear N0
  with_unfolding_all refine' For_invVF F0 ?k1 ?k2 ?_
  case k1 => exact rfl
  case k2 => exact rfl
  repeat' (first | (k_unfold; (try dsimp only)) | ((fail_if_success (with_reducible show wpAny _ _ (pyIter _) _ _ _)); first | (k_end; wrow_close) | walk1 | (dsimp only; walk1) | (leave1; walk_say "STEP leave1"; try dsimp only) | fail "no step"))
  rename IsRange _ _ _ _ _ _ _ _ => rg
  refine range_two [Str.ofString "one", Str.ofString "many"] (fun i bs fs => (bs, fs) = runS n.toNat i) (by rfl) rg (small_one (by omega) (by omega) (by omega) (by omega)) (rangeSize_nat _ _) (by assumption) (by assumption) (ne_of_allLt hlt1.2) (ne_of_allLt hlt0.2.2) .nil ?_ ?_ ?_
  · unfold runS
    rw [show (n + 1).toNat = n.toNat + 1 by omega]; rfl
  · intro bs k its fs j i t u h tk own hin hn1 hn2 hif hP F1 N1
    have hbl : bs.length = n.toNat + 1 := by
      have := congrArg (fun x => x.1.length) hP
      simpa [runS_len] using this
    have hfl : (fs.length : Int) ≤ 30 := by
      have := congrArg (fun x => x.2.length) hP
      have q := runS_flen n.toNat i
      simp only at this
      omega
    have hlt3 := ltN hlt0.1
    try k_fold
    repeat' (first | (k_unfold; (try dsimp only)) | ((fail_if_success (with_reducible show wpAny _ _ (exec (Stmt.For _ _ _ _ _) _) _ _ _)); first | (k_end; wrow_close) | walk1 | (dsimp only; walk1) | (leave1; walk_say "STEP leave1"; try dsimp only) | fail "no step"))
    · rename Fr _ _ _ _ => F2
      rename News _ _ _ _ => N2
      have hbt : bs.getD (2 + (i : Int) * 1).toNat false = true := by assumption
      with_unfolding_all refine' For_invVF F2 ?k1 ?k2 ?_
      case k1 => exact rfl
      case k2 => exact rfl
      repeat' (first | (k_unfold; (try dsimp only)) | ((fail_if_success (with_reducible show wpAny _ _ (pyIter _) _ _ _)); first | (k_end; wrow_close) | walk1 | (dsimp only; walk1) | (leave1; walk_say "STEP leave1"; try dsimp only) | fail "no step"))
      have e2 : (2 + (i : Int) * 1).toNat = 2 + i := by omega
      have hsz := sizeS h0 (show 2 ≤ 2 + (i : Int) * 1 by omega)
      rw [e2] at hsz
      rename IsRange _ _ _ _ _ _ _ _ => rg2
      refine range_bools [Str.ofString "many"] (fun q b => b = markS (2 + i) q bs) (by rfl) rg2 (smallS h0 h1 (by omega)) hsz (by assumption) (by assumption) (List.forall_mem_cons.mpr ⟨Nat.ne_of_gt hlt3, hn1⟩) rfl ?_ ?_
      · intro b k' q t' u' h' tk' own' hq hn3 hb F3 N3
        have hbl2 : b.length = n.toNat + 1 := by rw [hb, markS_len, hbl]
        have hE := eS i q
        have hI := idxS hq
        have hE0 : 0 ≤ ((2 + (i : Int) * 1) * (2 + (i : Int) * 1) + (q : Int) * (2 + (i : Int) * 1)) := by rw [hE]; exact Int.natCast_nonneg _
        have hE1 : ((2 + (i : Int) * 1) * (2 + (i : Int) * 1) + (q : Int) * (2 + (i : Int) * 1)) < (b.length : Int) := by rw [hE, hbl2]; exact_mod_cast Nat.lt_succ_of_le hI
        have hE2 : ((2 + (i : Int) * 1) * (2 + (i : Int) * 1) + (q : Int) * (2 + (i : Int) * 1)) < 2 ^ 63 := by rw [hbl2] at hE1; omega
        have hE3 : ((2 + (i : Int) * 1) * (2 + (i : Int) * 1) + (q : Int) * (2 + (i : Int) * 1)).toNat = (2 + i) * (2 + i) + (2 + i) * q := by rw [hE, Int.toNat_natCast]
        try k_fold
        k_steps
        refine en_endB (by assumption) (by assumption) (by k_mem) (fun _ h9 => .tail _ h9) ?_ ?_
        · rw [hE3, markS_succ, hb]
        · intro z hz
          simp only [List.contains_cons, List.contains_nil, Bool.or_false, Bool.or_eq_false_iff, beq_eq_false_iff_ne, ne_eq] at hz
          simp [hz]
      · intro b k' u' h' tk' hb F3 N3
        try k_fold
        k_steps
        rw [List.push_toArray] at N3
        refine en_end2 F3 N3 (.head _) (.tail _ (.head _)) (fun _ h9 => .tail _ (.tail _ h9)) (fs := fs ++ [2 + (i : Int) * 1]) (hif.append (.cons _ _ .nil)) ?_ ?_
        · rw [runS_succ, ← hP]
          unfold stepS
          rw [e2] at hbt
          rw [if_pos hbt, hb]
          congr 2
          rw [Int.mul_one]; push_cast; rfl
        · intro z hz
          simp only [List.contains_cons, List.contains_nil, Bool.or_false, Bool.or_eq_false_iff, beq_eq_false_iff_ne, ne_eq] at hz
          simp [hz]
    · have hbf : bs.getD (2 + (i : Int) * 1).toNat false = false := by assumption
      refine en_end2 (by assumption) (by assumption) (by k_mem) (.tail _ (.head _)) (fun _ h9 => .tail _ (.tail _ h9)) hif ?_ ?_
      · rw [runS_succ, ← hP]
        unfold stepS
        rw [show (2 + (i : Int) * 1).toNat = 2 + i by omega] at hbf
        rw [if_neg (by rw [hbf]; exact Bool.false_ne_true)]
      · intro z hz
        simp only [List.contains_cons, List.contains_nil, Bool.or_false, Bool.or_eq_false_iff, beq_eq_false_iff_ne, ne_eq] at hz
        simp [hz]
  · intro bs k its fs j u h tk hif hP F1 N1
    try k_fold
    k_steps
    exact ret_list hret (by assumption) (by assumption) (by k_mem) (fun _ h => .tail _ (.tail _ h)) (lt_of_allLt hlt0.2.2) hif (by
      have := congrArg Prod.snd hP
      unfold sieveP
      rw [show n.toNat - 1 = (n + 1 - 2).toNat by omega]
      exact this)

end SieveP
section GrowP
section
open PySem.Calls PyProof.V PySem.Spec
variable {prog : Program} {w : World} {A : Around} {E : Value → Shared → Prop} {s : Shared} {env : Env} {h₀ : Heap} {x : Str} {body : List Stmt} {Q : Flow → Shared → Prop}

/-- a turn's end where the ledger may have grown -/
noncomputable def GrowEnd (h₀ : Heap) (L : Addr) (J : (Str → Option Value) → List (Addr × Obj) → Prop) (own : List (Addr × Obj)) (adr : List Addr) (s₁ s₂ : Shared) : Prop :=
  ∃ h' tk m' news' nx, s₂ = { s₁ with heap := h', toks := tk } ∧ Fr h₀ L h' m' ∧ News h₀ L h' news' ∧ (∀ p ∈ nx, p ∈ news') ∧ (∀ p ∈ own, p ∈ news') ∧ (∀ p ∈ nx, p.1 ∈ adr ∨ p.2.cls ≠ .type "list_iterator") ∧ J m' nx
noncomputable def GrowPost (h₀ : Heap) (L : Addr) (J : (Str → Option Value) → List (Addr × Obj) → Prop) (own : List (Addr × Obj)) (adr : List Addr) (s₁ : Shared) (Q : Flow → Shared → Prop) (f : Flow) (s₂ : Shared) : Prop :=
  match f with
  | .ret v => Q (.ret v) s₂
  | .brk => Q .next s₂
  | _ => GrowEnd h₀ L J own adr s₁ s₂
theorem GrowPost.next {L : Addr} {J : (Str → Option Value) → List (Addr × Obj) → Prop} {own : List (Addr × Obj)} {adr : List Addr} {s₁ s₂ : Shared} (h : GrowEnd h₀ L J own adr s₁ s₂) : GrowPost h₀ L J own adr s₁ Q .next s₂ := h

theorem iter_grow {l L : Addr} {vs : List Value} {ns : List Int} {nn : Nat} {m₀ : Str → Option Value} {news : List (Addr × Obj)} (J : Nat → (Str → Option Value) → List (Addr × Obj) → Prop)
    (hh : A.handled = none) (hl : (l, listOf vs.toArray nn) ∈ news) (hi : IntsAre vs ns) (F : Fr h₀ L s.heap m₀) (N : News h₀ L s.heap news) (hj : J 0 m₀ news) (hkeep : ∀ i m nx, J i m nx → (l, listOf vs.toArray nn) ∈ nx)
    (turn : ∀ i n t m₁ news₁ h tk own, ns[i]? = some n → OwnOff own (news₁.map (·.1)) → J i m₁ news₁ → Fr h₀ L h (fun y => if y = x then some (.int n t) else m₁ y) → News h₀ L h (news₁ ++ own) →
      wpAny (model prog w) A (execs body env) (GrowPost h₀ L (J (i + 1)) own (news₁.map (·.1)) { s with heap := h, toks := tk } Q) E { s with heap := h, toks := tk })
    (done : ∀ m₁ news₁ h tk, J ns.length m₁ news₁ → Fr h₀ L h m₁ → News h₀ L h news₁ → Q .next { s with heap := h, toks := tk }) (hL : env.locals = L := by rfl) :
    wpAny (model prog w) A (pyIter (.ref l)) (fun it s₂ => LoopAtV prog w A h₀ env x body Q E it s₂) E s := by
  subst hL
  have hol : s.heap.get? l = some (listOf vs.toArray nn) := (N _ hl).1
  have hls : s.heap.IsList l vs.toArray := ⟨_, hol, rfl, nn, rfl⟩
  have hne : l ≠ s.heap.objs.size := Nat.ne_of_lt (Heap.lt_size hol)
  refine wpAny_pyIter_list hls ?_
  have W := Walks.list (prog := prog) (w := w) hh s.heap.objs.size l hne vs.toArray
  have hlen : vs.toArray.size = ns.length := by simp [hi.length]
  rw [hlen] at W
  refine ⟨_, _, _, ns.length, _, _, m₀, news, J, rfl, W, ?_, ?_, ?_, ⟨⟨_, Heap.get?_push_size _ rfl, rfl, rfl⟩, hls.at fun o e => Heap.get?_push_of_some _ e⟩, F.push _, (fun p hp => ⟨Heap.get?_push_of_some _ (N p hp).1, (N p hp).2⟩), hj, ?_, ?_⟩
  · intro hm
    rcases List.mem_cons.mp hm with e | hm
    · exact absurd F.ns.lt (e ▸ Nat.lt_irrefl _)
    · exact (N _ hl).2.1 ((List.mem_singleton.mp hm).symm)
  · intro b hb
    rw [List.mem_singleton.mp hb]
    exact next_is_new F
  · intro p hp hI
    exact absurd (Heap.lt_size (N p hp).1) ((List.mem_singleton.mp hI) ▸ Nat.lt_irrefl _)
  · rintro i v m₁ news₁ s₁ own ⟨hh', tk', rfl⟩ hin hP hJ hoff hown hget hfp hst F₁ N₁
    have hl₁ := hkeep _ _ _ hJ
    have hsep : OwnOff (own.filter fun p => decide (p.1 = s.heap.objs.size)) (news₁.map (·.1)) := by
      intro p hp b hb e
      obtain ⟨q, hq, rfl⟩ := List.mem_map.mp hb
      have h1 : p.1 = s.heap.objs.size := by simpa using (List.mem_filter.mp hp).2
      exact hoff q hq (List.mem_singleton.mpr (e.symm.trans h1))
    have hlt' : i < ns.length := hin
    obtain ⟨t, hx⟩ := hi.get i ns[i] (by simp [hlt'])
    have hv : v = .int ns[i] t := by
      have hP' : vs[i]? = some v := by simpa using hP
      rw [hx] at hP'; exact (Option.some.inj hP').symm
    subst hv
    have N₂ : News h₀ env.locals hh' (news₁ ++ own.filter fun p => decide (p.1 = s.heap.objs.size)) := fun p hp => N₁ p ((List.mem_append.mp hp).elim (fun h => List.mem_append.mpr (.inr h)) fun h => List.mem_append.mpr (.inl ((List.mem_filter.mp h).1)))
    have hlo : hh'.get? l = some (listOf vs.toArray nn) := (N₁ _ (List.mem_append.mpr (.inr hl₁))).1
    obtain ⟨oI, hoI, hcI, _⟩ := hst.1
    have hIown := hfp s.heap.objs.size (.head _) (next_is_new F) oI hoI
    refine wpAny_mono (turn i ns[i] t m₁ news₁ hh' tk' _ (by simp [hlt']) hsep hJ F₁ N₂) (fun f s₂ p => ?_) fun _ _ e => e
    have fin : GrowEnd h₀ env.locals (J (i + 1)) (own.filter fun p => decide (p.1 = s.heap.objs.size)) (news₁.map (·.1)) { s with heap := hh', toks := tk' } s₂ →
        LoopStepU h₀ env.locals [s.heap.objs.size] own (J (i + 1)) { s with heap := hh', toks := tk' } .next s₂ := by
      rintro ⟨h', tk, m', news', nx, e, F', N', hn, ho, hc, hm⟩
      refine ⟨rfl, h', tk, m', nx, e, F', fun p hp => ?_, fun p hp hI => ?_, hm⟩
      · rcases List.mem_append.mp hp with h | h
        · by_cases hI : p.1 = s.heap.objs.size
          · exact N' p (ho p (List.mem_filter.mpr ⟨h, by simpa using hI⟩))
          · have h1 : p.1 = l := by
              rcases List.mem_cons.mp (hown p h) with h2 | h2
              · exact absurd h2 hI
              · exact List.mem_singleton.mp h2
            have h2 : hh'.get? p.1 = some p.2 := hget p h
            rw [h1, hlo] at h2
            have h3 : p = (l, listOf vs.toArray nn) := Prod.ext h1 (Option.some.inj h2).symm
            rw [h3]
            exact N' _ (hn _ (hkeep _ _ _ hm))
        · exact N' p (hn p h)
      · have hI' : p.1 = s.heap.objs.size := List.mem_singleton.mp hI
        rcases hc p hp with h1 | h1
        · obtain ⟨q, hq, e⟩ := List.mem_map.mp h1
          exact hoff q hq (List.mem_singleton.mpr (e.trans hI'))
        · have h2 := (N' _ (ho _ (List.mem_filter.mpr ⟨hIown, by simp⟩))).1
          have h3 := (N' p (hn p hp)).1
          rw [hI'] at h3
          have h4 : oI = p.2 := Option.some.inj (h2.symm.trans h3)
          exact h1 (h4 ▸ hcI)
    cases f with
    | ret v => exact .ret p
    | brk => exact .brk p
    | next => exact .next (fin p)
    | cont => exact .cont (fin p)
  · rintro h' tk m' news' F' N' _ hJ
    exact done m' news' h' tk hJ F' N'

/-- a list of pairs on top of the ledger that the loop appends to -/
noncomputable def JPairs (D : Addr) (base : List (Addr × Obj)) (stored : List Str) (m₀ : Str → Option Value) (P : Nat → List (Int × Int) → Prop) (i : Nat) (m : Str → Option Value) (nx : List (Addr × Obj)) : Prop :=
  ∃ its k ps rest, nx = (D, listOf (List.toArray its) k) :: rest ∧ (∀ p ∈ rest, p.1 ≠ D) ∧ (∀ p ∈ base, p ∈ rest) ∧ PairsAre rest its ps ∧ P i ps ∧ ∀ z, stored.contains z = false → m z = m₀ z
theorem iter_pairs {l L D : Addr} {vs : List Value} {ns : List Int} {nn : Nat} {m₀ : Str → Option Value} {base : List (Addr × Obj)} {k0 : Nat} (stored : List Str) (P : Nat → List (Int × Int) → Prop)
    (hh : A.handled = none) (hl : (l, listOf vs.toArray nn) ∈ base) (hi : IntsAre vs ns) (F : Fr h₀ L s.heap m₀) (N : News h₀ L s.heap ((D, listOf (List.toArray ([] : List Value)) k0) :: base)) (hD : ∀ p ∈ base, p.1 ≠ D) (hj : P 0 [])
    (turn : ∀ its k ps rest i n t (u : Str → Option Value) h tk own, ns[i]? = some n → (∀ p ∈ rest ++ own, p.1 ≠ D) → (∀ p ∈ base, p ∈ rest) → PairsAre rest its ps → P i ps →
      Fr h₀ L h (fun y => if y = x then some (.int n t) else if stored.contains y then u y else m₀ y) → News h₀ L h ((D, listOf its.toArray k) :: (rest ++ own)) →
      wpAny (model prog w) A (execs body env) (GrowPost h₀ L (JPairs D base stored m₀ P (i + 1)) own (D :: rest.map (·.1)) { s with heap := h, toks := tk } Q) E { s with heap := h, toks := tk })
    (done : ∀ its k ps rest (u : Str → Option Value) h tk, (∀ p ∈ rest, p.1 ≠ D) → (∀ p ∈ base, p ∈ rest) → PairsAre rest its ps → P ns.length ps → Fr h₀ L h (fun y => if stored.contains y then u y else m₀ y) → News h₀ L h ((D, listOf its.toArray k) :: rest) → Q .next { s with heap := h, toks := tk }) (hL : env.locals = L := by rfl) :
    wpAny (model prog w) A (pyIter (.ref l)) (fun it s₂ => LoopAtV prog w A h₀ env x body Q E it s₂) E s := by
  have fr : ∀ {m₁ : Str → Option Value}, (∀ z, stored.contains z = false → m₁ z = m₀ z) → m₁ = fun z => if stored.contains z then m₁ z else m₀ z := fun {m₁} h2 => by
    funext y
    cases h3 : stored.contains y with
    | true => simp
    | false => simp only [Bool.false_eq_true, if_false]; exact h2 y h3
  refine iter_grow (JPairs D base stored m₀ P) hh (.tail _ hl) hi F N ⟨[], k0, [], base, rfl, hD, fun _ h => h, .nil, hj, fun _ _ => rfl⟩ ?_ ?_ ?_ hL
  · rintro i m nx ⟨its, k, ps, rest, rfl, _, hb, _⟩
    exact .tail _ (hb _ hl)
  · rintro i n t m₁ nx h tk own hn ho ⟨its, k, ps, rest, rfl, h1, hb, hp, hP, hm⟩ F₁ N₁
    rw [fr hm] at F₁
    exact turn its k ps rest i n t m₁ h tk own hn (app_ne h1 ho) hb hp hP F₁ N₁
  · rintro m₁ nx h tk ⟨its, k, ps, rest, rfl, h1, hb, hp, hP, hm⟩ F₁ N₁
    rw [fr hm] at F₁
    exact done its k ps rest m₁ h tk h1 hb hp hP F₁ N₁
theorem grow_keep {D : Addr} {base rest : List (Addr × Obj)} {stored : List Str} {m₀ m' : Str → Option Value} {P : Nat → List (Int × Int) → Prop} {i : Nat} {L : Addr} {own news' : List (Addr × Obj)} {s₁ : Shared} {h' : Heap} {tk : Nat} {its : List Value} {k : Nat} {ps : List (Int × Int)}
    (F : Fr h₀ L h' m') (N : News h₀ L h' news') (hD : (D, listOf its.toArray k) ∈ news') (hs : ∀ p ∈ rest ++ own, p ∈ news') (h1 : ∀ p ∈ rest ++ own, p.1 ≠ D) (hb : ∀ p ∈ base, p ∈ rest) (hp : PairsAre rest its ps) (hP : P i ps) (hr : ∀ z, stored.contains z = false → m' z = m₀ z) :
    GrowEnd h₀ L (JPairs D base stored m₀ P i) own (D :: rest.map (·.1)) s₁ { s₁ with heap := h', toks := tk } :=
  ⟨h', tk, m', news', (D, listOf its.toArray k) :: rest, rfl, F, N, fun p hp => by
    rcases List.mem_cons.mp hp with rfl | hp
    · exact hD
    · exact hs p (List.mem_append_left _ hp), fun p hp => hs p (List.mem_append_right _ hp), fun p hp => .inl (by
    rcases List.mem_cons.mp hp with rfl | hp
    · exact .head _
    · exact .tail _ (List.mem_map_of_mem hp)), its, k, ps, rest, rfl, fun p hp => h1 p (List.mem_append_left _ hp), hb, hp, hP, hr⟩
theorem PairsAre.snoc {news : List (Addr × Obj)} {vs : List Value} {ps : List (Int × Int)} {T : Addr} {i j : Int} {ti tj : Tok} {n : Nat} (h : PairsAre news vs ps) (hm : (T, ({ cls := .type "tuple", data := .seq #[.int i ti, .int j tj] n } : Obj)) ∈ news) :
    PairsAre news (vs ++ [.ref T]) (ps ++ [(i, j)]) := by
  induction h with
  | nil => exact .cons hm .nil
  | cons hm1 _ ih => exact .cons hm1 ih
theorem grow_more {D T : Addr} {base rest : List (Addr × Obj)} {stored : List Str} {m₀ m' : Str → Option Value} {P : Nat → List (Int × Int) → Prop} {i : Nat} {L : Addr} {own news' : List (Addr × Obj)} {s₁ : Shared} {h' : Heap} {tk : Nat} {its : List Value} {k : Nat} {ps : List (Int × Int)} {a b : Int} {ta tb : Tok} {n : Nat}
    (F : Fr h₀ L h' m') (N : News h₀ L h' news') (hD : (D, listOf (its ++ [Value.ref T]).toArray k) ∈ news') (hT : (T, ({ cls := .type "tuple", data := .seq #[.int a ta, .int b tb] n } : Obj)) ∈ news') (hTD : T ≠ D) (hs : ∀ p ∈ rest ++ own, p ∈ news') (h1 : ∀ p ∈ rest ++ own, p.1 ≠ D) (hb : ∀ p ∈ base, p ∈ rest) (hp : PairsAre rest its ps) (hP : P i (ps ++ [(a, b)])) (hr : ∀ z, stored.contains z = false → m' z = m₀ z) :
    GrowEnd h₀ L (JPairs D base stored m₀ P i) own (D :: rest.map (·.1)) s₁ { s₁ with heap := h', toks := tk } :=
  ⟨h', tk, m', news', (D, listOf (its ++ [Value.ref T]).toArray k) :: (T, ({ cls := .type "tuple", data := .seq #[.int a ta, .int b tb] n } : Obj)) :: rest, rfl, F, N, fun p hp => by
    rcases List.mem_cons.mp hp with rfl | hp
    · exact hD
    rcases List.mem_cons.mp hp with rfl | hp
    · exact hT
    · exact hs p (List.mem_append_left _ hp), fun p hp => hs p (List.mem_append_right _ hp), fun p hp => by
    rcases List.mem_cons.mp hp with rfl | hp
    · exact .inl (.head _)
    rcases List.mem_cons.mp hp with rfl | hp
    · exact .inr (by show Value.type "tuple" ≠ Value.type "list_iterator"; decide)
    · exact .inl (.tail _ (List.mem_map_of_mem hp)), _, k, _, _, rfl, fun p hp => by
    rcases List.mem_cons.mp hp with rfl | hp
    · exact hTD
    · exact h1 p (List.mem_append_left _ hp), fun p hp => .tail _ (hb p hp), (hp.mono fun _ h => .tail _ h).snoc (.head _), hP, hr⟩
end

end GrowP
section PureP
theorem fe_zero (p : Nat) : fe p 0 = 0 := by rw [fe]; simp
theorem fe_pos {p n : Nat} (h : 0 < n) (hp : 2 ≤ p) : fe p n = n / p + fe p (n / p) := by rw [fe, if_neg (by omega)]
theorem fe_any {p : Nat} (n : Nat) (hp : 2 ≤ p) : fe p n = n / p + fe p (n / p) := by
  by_cases h : n = 0
  · subst h; rw [Nat.zero_div, fe_zero]
  · exact fe_pos (by omega) hp
/-- Legendre: by the sum of the figures -/
theorem legendre {p : Nat} (hp : 2 ≤ p) : ∀ n : Nat, (fe p n : Int) * ((p : Int) - 1) = (n : Int) - (dig p n).sum := by
  intro n
  induction n using Nat.strongRecOn with
  | _ n ih =>
    by_cases h : n = 0
    · subst h; rw [fe_zero, dig_zero]; simp
    · have hlt := Nat.div_lt_self (n := n) (k := p) (by omega) (by omega)
      have ih := ih _ hlt
      rw [fe_pos (by omega) hp, dig_pos (by omega) hp, List.sum_cons]
      have e := Nat.mod_add_div n p
      have e' : ((n % p : Nat) : Int) + (p : Int) * ((n / p : Nat) : Int) = (n : Int) := by exact_mod_cast e
      rw [Int.natCast_add, Int.add_mul, ih, Int.mul_sub, Int.mul_one, Int.mul_comm ((n / p : Nat) : Int)]
      omega
theorem div_succ_dvd {p n : Nat} (hp : 2 ≤ p) (h : (n + 1) % p = 0) : (n + 1) / p = n / p + 1 := by
  have e1 := Nat.mod_add_div (n + 1) p
  have e2 := Nat.mod_add_div n p
  have b2 := Nat.mod_lt n (show p > 0 by omega)
  rw [h, Nat.zero_add] at e1
  have : p * ((n + 1) / p) = p * (n / p) + (n % p + 1) := by omega
  have h3 : n % p + 1 = p * ((n + 1) / p - n / p) := by
    rw [Nat.mul_sub]; omega
  have h4 : (n + 1) / p - n / p = 1 := by
    rcases (show (n + 1) / p - n / p = 0 ∨ (n + 1) / p - n / p = 1 ∨ 2 ≤ (n + 1) / p - n / p by omega) with q | q | q
    · rw [q] at h3; omega
    · exact q
    · have := Nat.mul_le_mul_left p q
      omega
  omega
theorem div_succ_not {p n : Nat} (hp : 2 ≤ p) (h : ¬ (n + 1) % p = 0) : (n + 1) / p = n / p := by
  have e1 := Nat.mod_add_div (n + 1) p
  have e2 := Nat.mod_add_div n p
  have b1 := Nat.mod_lt (n + 1) (show p > 0 by omega)
  have b2 := Nat.mod_lt n (show p > 0 by omega)
  rcases Nat.lt_trichotomy ((n + 1) / p) (n / p) with q | q | q
  · have := Nat.mul_le_mul_left p (show (n + 1) / p + 1 ≤ n / p from q)
    rw [Nat.mul_add] at this
    omega
  · exact q
  · have := Nat.mul_le_mul_left p (show n / p + 1 ≤ (n + 1) / p from q)
    rw [Nat.mul_add] at this
    omega
/-- a factorial's count grows by that of each number -/
theorem fe_succ {p : Nat} (hp : 2 ≤ p) : ∀ n : Nat, fe p (n + 1) = fe p n + vp p (n + 1) := by
  intro n
  induction n using Nat.strongRecOn with
  | _ n ih =>
    rw [fe_pos (n := n + 1) (by omega) hp, fe_any n hp]
    by_cases h : (n + 1) % p = 0
    · rw [vp_dvd (by omega) hp h, div_succ_dvd hp h]
      have hlt : n / p < n := by
        by_cases hn : n = 0
        · subst hn
          have h1 : 1 % p = 1 := Nat.mod_eq_of_lt (by omega)
          have h2 : 1 % p = 0 := h
          rw [h1] at h2
          cases h2
        · exact Nat.div_lt_self (by omega) (by omega)
      rw [ih _ hlt]
      omega
    · rw [vp_not h, div_succ_not hp h]
      omega
theorem add_div {p a b c : Nat} (hp : 2 ≤ p) (hc : c ≤ 1) : (a + b + c) / p = a / p + b / p + (if p ≤ a % p + b % p + c then 1 else 0) := by
  have ea := Nat.mod_add_div a p
  have eb := Nat.mod_add_div b p
  have ba := Nat.mod_lt a (show p > 0 by omega)
  have bb := Nat.mod_lt b (show p > 0 by omega)
  have e : a + b + c = (a % p + b % p + c) + p * (a / p + b / p) := by rw [Nat.mul_add]; omega
  rw [e, Nat.add_mul_div_left _ _ (by omega)]
  have : (a % p + b % p + c) / p = if p ≤ a % p + b % p + c then 1 else 0 := by
    split
    · rename_i h
      have : (a % p + b % p + c) / p < 2 := by rw [Nat.div_lt_iff_lt_mul (by omega)]; omega
      have : 1 ≤ (a % p + b % p + c) / p := by rw [Nat.le_div_iff_mul_le (by omega)]; omega
      omega
    · exact Nat.div_eq_of_lt (by omega)
  omega
theorem ca_any {p a b c : Nat} (hp : 2 ≤ p) (hc : c ≤ 1) : ca p a b c = (if p ≤ a % p + b % p + c then 1 else 0) + ca p (a / p) (b / p) (if p ≤ a % p + b % p + c then 1 else 0) := by
  by_cases h : 0 < a ∨ 0 < b ∨ 0 < c
  · exact ca_pos h hp hc
  · have ha : a = 0 := by omega
    have hb : b = 0 := by omega
    have hc0 : c = 0 := by omega
    subst ha hb hc0
    rw [Nat.zero_div, Nat.zero_mod, if_neg (by omega), ca_zero]
theorem carry_less {p a b c : Nat} (hp : 2 ≤ p) (hc : c ≤ 1) (h : 0 < a ∨ 0 < b ∨ 0 < c) : a / p + b / p + (if p ≤ a % p + b % p + c then 1 else 0) < a + b + c := by
  rw [← add_div hp hc]
  exact Nat.div_lt_self (by omega) (by omega)
/-- Kummer: by the carries -/
theorem kummer {p : Nat} (hp : 2 ≤ p) : ∀ (k a b c : Nat), a + b + c ≤ k → c ≤ 1 → fe p (a + b + c) = fe p a + fe p b + ca p a b c := by
  intro k
  induction k with
  | zero =>
    intro a b c h _
    have ha : a = 0 := by omega
    have hb : b = 0 := by omega
    have hc0 : c = 0 := by omega
    subst ha hb hc0
    rw [ca_zero, fe_zero]
  | succ k ih =>
    intro a b c h hc
    by_cases hz : 0 < a ∨ 0 < b ∨ 0 < c
    · have hl := carry_less hp hc hz
      have hc' : (if p ≤ a % p + b % p + c then 1 else 0) ≤ 1 := by split <;> omega
      have := ih (a / p) (b / p) _ (by omega) hc'
      rw [fe_any (a + b + c) hp, add_div hp hc, this, ca_any hp hc, fe_any a hp, fe_any b hp]
      rw [← fe_any a hp, ← fe_any b hp]
      have ea := fe_any a hp
      have eb := fe_any b hp
      omega
    · exact ih a b c (by omega) hc
theorem ca_pow {p : Nat} (hp : 2 ≤ p) : ∀ (k a b c : Nat), a + b + c ≤ k → c ≤ 1 → p ^ ca p a b c ≤ max 1 (a + b + c) := by
  intro k
  induction k with
  | zero =>
    intro a b c h _
    have ha : a = 0 := by omega
    have hb : b = 0 := by omega
    have hc0 : c = 0 := by omega
    subst ha hb hc0
    rw [ca_zero]; exact Nat.le_refl _
  | succ k ih =>
    intro a b c h hc
    by_cases hz : 0 < a ∨ 0 < b ∨ 0 < c
    · have hl := carry_less hp hc hz
      have hc' : (if p ≤ a % p + b % p + c then 1 else 0) ≤ 1 := by split <;> omega
      have i := ih (a / p) (b / p) _ (by omega) hc'
      rw [ca_any hp hc, Nat.pow_add]
      have ea := Nat.mod_add_div a p
      have eb := Nat.mod_add_div b p
      by_cases hq : p ≤ a % p + b % p + c
      · rw [if_pos hq] at i hl ⊢
        rw [Nat.pow_one]
        have i2 : p ^ ca p (a / p) (b / p) 1 ≤ a / p + b / p + 1 := by
          rw [Nat.max_eq_right (Nat.le_add_left 1 _)] at i
          exact i
        have := Nat.mul_le_mul_left p i2
        rw [Nat.mul_add, Nat.mul_add, Nat.mul_one] at this
        rw [Nat.max_eq_right (by omega)]
        omega
      · rw [if_neg hq] at i hl ⊢
        rw [Nat.pow_zero, Nat.one_mul]
        omega
    · exact ih a b c (by omega) hc
theorem div_half (n p : Nat) : n / 2 / p = n / p / 2 := by rw [Nat.div_div_eq_div_mul, Nat.div_div_eq_div_mul, Nat.mul_comm]
theorem sw_fe {p : Nat} (hp : 2 ≤ p) : ∀ r : Nat, sw p r + 2 * (r / 2 + fe p (r / 2)) = r + fe p r := by
  intro r
  induction r using Nat.strongRecOn with
  | _ r ih =>
    by_cases h : r = 0
    · subst h; rw [sw_zero, Nat.zero_div, fe_zero]
    · have := ih (r / p) (Nat.div_lt_self (by omega) (by omega))
      rw [sw_pos (by omega) hp, fe_any r hp, fe_any (r / 2) hp, div_half]
      omega
/-- a swing's count: the factorial's less twice the half's -/
theorem swing_fe {p : Nat} (hp : 2 ≤ p) (n : Nat) : sw p (n / p) + 2 * fe p (n / 2) = fe p n := by
  have := sw_fe hp (n / p)
  rw [fe_any n hp, fe_any (n / 2) hp, div_half]
  omega

end PureP
section Pure2P
theorem vp_coprime {p R : Nat} (hp : 2 ≤ p) (h : p.Coprime R) : vp p R = 0 := by
  refine vp_not fun q => ?_
  have := h.eq_one_of_dvd (Nat.dvd_of_mod_eq_zero q)
  omega
theorem vp_mul_coprime {p c : Nat} (hp : 2 ≤ p) (hc : p.Coprime c) (hc0 : 0 < c) : ∀ N : Nat, vp p (c * N) = vp p N := by
  intro N
  induction N using Nat.strongRecOn with
  | _ N ih =>
    by_cases h0 : N = 0
    · subst h0; rw [Nat.mul_zero]
    · by_cases h : N % p = 0
      · obtain ⟨M, rfl⟩ := Nat.dvd_of_mod_eq_zero h
        have hM : 0 < M := Nat.pos_of_ne_zero fun e => h0 (by rw [e, Nat.mul_zero])
        have e1 : c * (p * M) = p * (c * M) := by rw [← Nat.mul_assoc, Nat.mul_comm c p, Nat.mul_assoc]
        rw [e1, vp_dvd (Nat.mul_pos (by omega) (Nat.mul_pos hc0 hM)) hp (Nat.mul_mod_right _ _), vp_dvd (Nat.mul_pos (by omega) hM) hp (Nat.mul_mod_right _ _), Nat.mul_div_cancel_left _ (by omega), Nat.mul_div_cancel_left _ (by omega)]
        rw [ih M (by have := Nat.mul_le_mul_right M hp; omega)]
      · rw [vp_not h, vp_not fun q => h (Nat.mod_eq_zero_of_dvd (hc.dvd_of_dvd_mul_left (Nat.dvd_of_mod_eq_zero q)))]
theorem vp_pow_mul {p R : Nat} (hp : 2 ≤ p) (hR : 0 < R) : ∀ m : Nat, vp p (p ^ m * R) = m + vp p R
  | 0 => by rw [Nat.pow_zero, Nat.one_mul, Nat.zero_add]
  | m + 1 => by
    have e : p ^ (m + 1) * R = p * (p ^ m * R) := by rw [Nat.pow_succ, Nat.mul_comm (p ^ m) p, Nat.mul_assoc]
    rw [e, vp_dvd (Nat.mul_pos (by omega) (Nat.mul_pos (Nat.pow_pos (by omega)) hR)) hp (Nat.mul_mod_right _ _), Nat.mul_div_cancel_left _ (by omega), vp_pow_mul hp hR m]
    omega
noncomputable def Cop : List (Int × Int) → Prop
  | [] => True
  | p :: r => (∀ q ∈ r, Nat.Coprime p.1.toNat q.1.toNat) ∧ Cop r
theorem cop_prod {p : Nat} : ∀ {ps : List (Int × Int)}, (∀ q ∈ ps, p.Coprime q.1.toNat) → p.Coprime (prodP ps)
  | [], _ => Nat.coprime_one_right p
  | q :: r, h => Nat.Coprime.mul_right ((h q (.head _)).pow_right _) (cop_prod fun z hz => h z (.tail _ hz))
theorem vp_prod : ∀ {ps : List (Int × Int)}, PairsOk ps → (∀ q ∈ ps, 2 ≤ q.1) → Cop ps → ∀ q ∈ ps, vp q.1.toNat (prodP ps) = q.2.toNat
  | [], _, _, _, _, h => nomatch h
  | p :: r, ok, h2, hc, q, hq => by
    have okr : PairsOk r := fun z hz => ok z (.tail _ hz)
    have pr := prodP_pos okr
    have p2 := h2 p (.head _)
    show vp q.1.toNat (p.1.toNat ^ p.2.toNat * prodP r) = _
    rcases List.mem_cons.mp hq with rfl | hq
    · rw [vp_pow_mul (by omega) pr, vp_coprime (by omega) (cop_prod hc.1)]
      omega
    · have q2 := h2 q (.tail _ hq)
      rw [vp_mul_coprime (by omega) (((hc.1 q hq).symm).pow_right _) (Nat.pow_pos (by omega))]
      exact vp_prod okr (fun z hz => h2 z (.tail _ hz)) hc.2 q hq

noncomputable def cS (n k p : Int) : Int := (ca p.toNat k.toNat (n - k).toNat 0 : Nat)
noncomputable def mB (n k p : Int) : Int := feI n p - feI k p - feI (n - k) p
noncomputable def pairsB (n k : Int) : List Int → List (Int × Int)
  | [] => []
  | p :: r => (if 0 < mB n k p then [(p, mB n k p)] else []) ++ pairsB n k r
noncomputable def pairsC (n k : Int) (ps : List Int) : List (Int × Int) := ps.map fun p => (p, cS n k p)
theorem pairsB_snoc (n k p : Int) : ∀ ps : List Int, pairsB n k (ps ++ [p]) = pairsB n k ps ++ (if 0 < mB n k p then [(p, mB n k p)] else [])
  | [] => by simp [pairsB]
  | q :: r => by
    show _ ++ pairsB n k (r ++ [p]) = _ ++ pairsB n k r ++ _
    rw [pairsB_snoc n k p r, List.append_assoc]
theorem mB_eq {n k p : Int} (h0 : 0 ≤ k) (h1 : k ≤ n) (hp : 2 ≤ p) : mB n k p = cS n k p := by
  unfold mB cS feI
  have := kummer (p := p.toNat) (by omega) _ k.toNat (n - k).toNat 0 (Nat.le_refl _) (by decide)
  rw [show k.toNat + (n - k).toNat + 0 = n.toNat by omega] at this
  omega
theorem cS_pow {n k p : Int} (h0 : 0 ≤ k) (h1 : k ≤ n) (h2 : n ≤ 30) (hp : 2 ≤ p) : p.toNat ^ (cS n k p).toNat ≤ 30 := by
  have := ca_pow (p := p.toNat) (by omega) _ k.toNat (n - k).toNat 0 (Nat.le_refl _) (by decide)
  have hm : max 1 (k.toNat + (n - k).toNat + 0) ≤ 30 := by omega
  unfold cS
  rw [Int.toNat_natCast]
  exact Nat.le_trans this hm
theorem cS_nonneg (n k p : Int) : 0 ≤ cS n k p := Int.natCast_nonneg _
theorem cS_lt {n k p : Int} (h0 : 0 ≤ k) (h1 : k ≤ n) (h2 : n ≤ 30) (hp : 2 ≤ p) : cS n k p < 1000000 := by
  have a := cS_pow h0 h1 h2 hp
  have b : (cS n k p).toNat < p.toNat ^ (cS n k p).toNat := Nat.lt_pow_self (by omega)
  omega
theorem pairsC_ok {n k : Int} {ps : List Int} (h0 : 0 ≤ k) (h1 : k ≤ n) (h2 : n ≤ 30) (hp : ∀ p ∈ ps, 2 ≤ p ∧ p ≤ 30) : PairsOk (pairsC n k ps) := by
  intro q hq
  obtain ⟨p, hm, rfl⟩ := List.mem_map.mp hq
  have := hp p hm
  exact ⟨by show 1 ≤ p; omega, by show p < 1000000; omega, cS_nonneg n k p, cS_lt h0 h1 h2 this.1⟩
theorem pairsB_ok {n k : Int} (h0 : 0 ≤ k) (h1 : k ≤ n) (h2 : n ≤ 30) : ∀ {ps : List Int}, (∀ p ∈ ps, 2 ≤ p ∧ p ≤ 30) → PairsOk (pairsB n k ps)
  | [], _ => fun _ h => nomatch h
  | p :: r, hp => by
    intro q hq
    have := hp p (.head _)
    rcases List.mem_append.mp hq with hq | hq
    · split at hq
      · rw [List.mem_singleton.mp hq]
        rw [mB_eq h0 h1 this.1]
        exact ⟨by show 1 ≤ p; omega, by show p < 1000000; omega, cS_nonneg n k p, cS_lt h0 h1 h2 this.1⟩
      · cases hq
    · exact pairsB_ok h0 h1 h2 (fun z hz => hp z (.tail _ hz)) q hq
theorem pairsB_len (n k : Int) : ∀ ps : List Int, (pairsB n k ps).length ≤ ps.length
  | [] => Nat.le_refl _
  | p :: r => by
    have := pairsB_len n k r
    show ((if 0 < mB n k p then [(p, mB n k p)] else []) ++ pairsB n k r).length ≤ r.length + 1
    rw [List.length_append]
    split <;> simp <;> omega
theorem prod_same {n k : Int} (h0 : 0 ≤ k) (h1 : k ≤ n) : ∀ {ps : List Int}, (∀ p ∈ ps, 2 ≤ p ∧ p ≤ 30) → prodP (pairsB n k ps) = prodP (pairsC n k ps)
  | [], _ => rfl
  | p :: r, hp => by
    have := hp p (.head _)
    have ih := prod_same h0 h1 (ps := r) (fun z hz => hp z (.tail _ hz))
    show prodP ((if 0 < mB n k p then [(p, mB n k p)] else []) ++ pairsB n k r) = p.toNat ^ (cS n k p).toNat * prodP (pairsC n k r)
    rw [prodP_append, ih, mB_eq h0 h1 this.1]
    congr 1
    split
    · show p.toNat ^ (cS n k p).toNat * 1 = _
      rw [Nat.mul_one]
    · rename_i q
      rw [show (cS n k p).toNat = 0 by omega, Nat.pow_zero]; rfl
theorem prodC_le {n k : Int} (h0 : 0 ≤ k) (h1 : k ≤ n) (h2 : n ≤ 30) : ∀ {ps : List Int}, (∀ p ∈ ps, 2 ≤ p ∧ p ≤ 30) → prodP (pairsC n k ps) ≤ 30 ^ ps.length
  | [], _ => Nat.le_refl _
  | p :: r, hp => by
    have a := cS_pow h0 h1 h2 (hp p (.head _)).1
    have b := prodC_le h0 h1 h2 (ps := r) (fun z hz => hp z (.tail _ hz))
    show p.toNat ^ (cS n k p).toNat * prodP (pairsC n k r) ≤ 30 ^ (r.length + 1)
    rw [Nat.pow_succ, Nat.mul_comm]
    exact Nat.mul_le_mul b a
noncomputable def copB : List Int → Bool
  | [] => true
  | p :: r => (r.all fun q => Nat.gcd p.toNat q.toNat == 1) && copB r
noncomputable def okS (l : List Int) : Bool := (l.all fun p => decide (2 ≤ p) && decide (p ≤ 30)) && (decide (l.length ≤ 10) && copB l)
theorem sieve_ok0 : ∀ n : Fin 31, okS (sieveP n.val) = true := by decide +kernel
theorem sieve_all {n : Int} (h0 : 0 ≤ n) (h1 : n ≤ 30) : okS (sieveP n.toNat) = true := sieve_ok0 ⟨n.toNat, by omega⟩
theorem sieve_in {n : Int} (h0 : 0 ≤ n) (h1 : n ≤ 30) : ∀ p ∈ sieveP n.toNat, 2 ≤ p ∧ p ≤ 30 := by
  have := sieve_all h0 h1
  unfold okS at this
  rw [Bool.and_eq_true, List.all_eq_true] at this
  intro p hp
  have := this.1 p hp
  simpa using this
theorem sieve_len {n : Int} (h0 : 0 ≤ n) (h1 : n ≤ 30) : (sieveP n.toNat).length ≤ 10 := by
  have := sieve_all h0 h1
  unfold okS at this
  rw [Bool.and_eq_true, Bool.and_eq_true] at this
  exact of_decide_eq_true this.2.1
theorem cop_of (n k : Int) : ∀ {l : List Int}, copB l = true → Cop (pairsC n k l)
  | [], _ => trivial
  | p :: r, h => by
    unfold copB at h
    rw [Bool.and_eq_true, List.all_eq_true] at h
    refine ⟨fun q hq => ?_, cop_of n k h.2⟩
    obtain ⟨z, hz, rfl⟩ := List.mem_map.mp hq
    have := h.1 z hz
    exact beq_iff_eq.mp this
theorem sieve_cop {n : Int} (k : Int) (h0 : 0 ≤ n) (h1 : n ≤ 30) : Cop (pairsC n k (sieveP n.toNat)) := by
  have := sieve_all h0 h1
  unfold okS at this
  rw [Bool.and_eq_true, Bool.and_eq_true] at this
  exact cop_of n k this.2.2
theorem prodC_lt {n k : Int} (h0 : 0 ≤ k) (h1 : k ≤ n) (h2 : n ≤ 30) : prodP (pairsC n k (sieveP n.toNat)) < 1152921504606846976 := by
  have a := prodC_le h0 h1 h2 (sieve_in (by omega) h2)
  have b : 30 ^ (sieveP n.toNat).length ≤ 30 ^ 10 := Nat.pow_le_pow_right (by decide) (sieve_len (by omega) h2)
  have c : (30 : Nat) ^ 10 < 1152921504606846976 := by decide
  omega
theorem whole_pos {n k : Int} (h0 : 0 ≤ k) (h1 : k ≤ n) (h2 : n ≤ 30) : 1 ≤ prodP (pairsC n k (sieveP n.toNat)) := prodP_pos (pairsC_ok h0 h1 h2 (sieve_in (by omega) h2))
theorem stands_whole {n k : Int} (h0 : 0 ≤ k) (h1 : k ≤ n) (h2 : n ≤ 30) {p : Int} (hp : p ∈ sieveP n.toNat) : (vp p.toNat (prodP (pairsC n k (sieveP n.toNat))) : Int) = cS n k p := by
  have := vp_prod (pairsC_ok h0 h1 h2 (sieve_in (by omega) h2)) (fun q hq => by
    obtain ⟨z, hz, rfl⟩ := List.mem_map.mp hq
    exact (sieve_in (by omega) h2 z hz).1) (sieve_cop k (by omega) h2) (p, cS n k p) (List.mem_map.mpr ⟨p, hp, rfl⟩)
  have e := cS_nonneg n k p
  rw [this]
  exact Int.toNat_of_nonneg e

end Pure2P
section BinomP
theorem mono_of {g h : Heap} {L : Addr} {x : Addr × Obj} {rest : List (Addr × Obj)} {its : List Value} {ps} (_ : News g L h (x :: rest)) (hpa : PairsAre rest its ps) : PairsAre (x :: rest) its ps := hpa.mono (fun _ h => .tail _ h)
noncomputable def RNone (news : List (Addr × Obj)) (r : Value) (nx : List (Addr × Obj)) : Prop := news = nx ∧ r = .none
set_option maxRecDepth 100000 in
set_option maxHeartbeats 2000000 in
theorem need_con (w : World) (mean : ExcName → Option Value) (mg mb : Str → Option Value) (news : List (Addr × Obj)) (n : Int) (t1 : Tok) (h0 : 0 ≤ n) :
    Con w mean mg mb 67 1 news [.int n t1] (RNone news) := by
  unfold Con
  k_fill
  w_top off
  k_with_none
  k_with "call builtin:len" => (k_here; (with_reducible show wpAny _ _ (call (Value.builtin "len") [Value.ref _]) _ _ _); k_dflt (refine' kst_len ?k1W9 ?k2W9 ?k3W9 ?k4W9 ?_; (case k1W9 => k_asm); (case k2W9 => k_mem); (case k3W9 => exact IntsAre.length (by assumption)); (case k4W9 => omega); k_whole))
  intro dp un gd cn cs a ccd cl outer A₀ base h₀ L m s Q E B F X N T hk hd hu hret
  refine wpAny_call ?_
  k_dflt ktr_enter
  k_steps
  exact hret _ _ _ _ (by assumption) (by assumption) ⟨rfl, rfl⟩
set_option maxRecDepth 100000 in
set_option maxHeartbeats 2000000 in
theorem binom_con (w : World) (mean : ExcName → Option Value) (mg mb : Str → Option Value) (news : List (Addr × Obj)) (n k W : Int) (t1 t2 tw : Tok) (h0 : 0 ≤ k) (h1 : k ≤ n) (hn : n ≤ 30) (h2 : 3 ≤ W) (h3 : W ≤ 9) :
    Con w mean mg mb 102 50 news [.int n t1, .int k t2, .int W tw, .ref 109] (RList news (dig (2 ^ W.toNat) (prodP (pairsC n k (sieveP n.toNat))))) := by
  have hsv := sieve_in (n := n) (by omega) hn
  have hsl := sieve_len (n := n) (by omega) hn
  unfold Con
  k_fill
  w_top off
  k_with_none
  k_with "call builtin:len" => (k_here; (with_reducible show wpAny _ _ (call (Value.builtin "len") [Value.ref _]) _ _ _); k_dflt (refine' kst_len ?k1W9 ?k2W9 ?k3W9 ?k4W9 ?_; (case k1W9 => k_asm); (case k2W9 => k_mem); (case k3W9 => exact IntsAre.length (by assumption)); (case k4W9 => omega); k_whole))
  k_with "call ref" => (k_here; (with_reducible show wpAny _ _ (call (Value.ref 67) _) _ _ _); (refine' con_use ?k1W9 ?k2W9 ?k3W9 ?k4W9 ?k5W9 ?kKW9 (need_con _ _ _ _ _ _ _ ?c1W9) ?kdW9 ?kuW9 ?_); (case k1W9 => k_asm); (case k2W9 => k_asm); (case k3W9 => k_asm); (case k4W9 => k_asm); (case k5W9 => k_asm); (case kKW9 => first | exact rfl | assumption); (case c1W9 => omega); (case kdW9 => ktr_room); (case kuW9 => ktr_units); (rintro r9 nx9 h9 tk9 F9 N9 ⟨e9', e9⟩; subst e9; subst e9'); (try dsimp only); (try k_fold))
  k_with "call ref" => (k_here; (with_reducible show wpAny _ _ (call (Value.ref 60) _) _ _ _); (refine' con_use ?k1W9 ?k2W9 ?k3W9 ?k4W9 ?k5W9 ?kKW9 (sieve_con _ _ _ _ _ _ _ ?c1W9 ?c2W9) ?kdW9 ?kuW9 ?_); (case k1W9 => k_asm); (case k2W9 => k_asm); (case k3W9 => k_asm); (case k4W9 => k_asm); (case k5W9 => k_asm); (case kKW9 => first | exact rfl | assumption); (case c1W9 => omega); (case c2W9 => omega); (case kdW9 => ktr_room); (case kuW9 => ktr_units); (rintro r9 nx9 h9 tk9 F9 N9 ⟨a9, its9, n9, e9, e9', hl9, hi9⟩; subst e9; subst e9'); (try dsimp only); (try k_fold))
  k_with "call ref" => (k_here; (with_reducible show wpAny _ _ (call (Value.ref 95) _) _ _ _); (refine' con_use ?k1W9 ?k2W9 ?k3W9 ?k4W9 ?k5W9 ?kKW9 (fe_con _ _ _ _ _ _ _ _ _ ?c1W9 ?c2W9 ?c3W9 ?c4W9) ?kdW9 ?kuW9 ?_); (case k1W9 => k_asm); (case k2W9 => k_asm); (case k3W9 => k_asm); (case k4W9 => k_asm); (case k5W9 => k_asm); (case kKW9 => first | exact rfl | assumption); (case c1W9 => omega); (case c2W9 => omega); (case c3W9 => omega); (case c4W9 => omega); (case kdW9 => ktr_room); (case kuW9 => ktr_units); (rintro r9 nx9 h9 tk9 F9 N9 ⟨e9', t9, e9⟩; subst e9; subst e9'); (try dsimp only); (try k_fold))
  k_with "call ref" => (k_here; (with_reducible show wpAny _ _ (call (Value.ref 81) _) _ _ _); (refine' con_use ?k1W9 ?k2W9 ?k3W9 ?k4W9 ?k5W9 ?kKW9 (prod_con _ _ _ _ _ _ _ _ _ _ _ ?c1W9 ?c2W9 ?c3W9 ?c4W9 ?c5W9 ?c6W9 ?c7W9) ?kdW9 ?kuW9 ?_); (case k1W9 => k_asm); (case k2W9 => k_asm); (case k3W9 => k_asm); (case k4W9 => k_asm); (case k5W9 => k_asm); (case kKW9 => first | exact rfl | assumption); (case c1W9 => omega); (case c2W9 => omega); (case c4W9 => k_mem); (case c5W9 => with_reducible assumption); (case c3W9 => first | with_reducible assumption | omega); (case c6W9 => with_reducible assumption); (case c7W9 => with_reducible assumption); (case kdW9 => ktr_room); (case kuW9 => ktr_units); (rintro r9 nx9 h9 tk9 F9 N9 ⟨a9, its9, n9, e9, e9', hl9, hi9⟩; subst e9; subst e9'); (try dsimp only); (try k_fold))
  intro dp un gd cn cs a ccd cl outer A₀ base h₀ L m s Q E B F X N T hk hd hu hret
  refine wpAny_call ?_
  k_dflt ktr_enter
  repeat' (first | (k_unfold; (try dsimp only)) | ((fail_if_success (with_reducible show wpAny _ _ (exec (Stmt.For _ _ _ _ _) _) _ _ _)); first | (k_end; wrow_close) | walk1 | (dsimp only; walk1) | (leave1; walk_say "STEP leave1"; try dsimp only) | fail "no step"))
  rename Fr _ _ _ _ => F0
  with_unfolding_all refine' For_invVF F0 ?k1 ?k2 ?_
  case k1 => exact rfl
  case k2 => exact rfl
  repeat' (first | (k_unfold; (try dsimp only)) | ((fail_if_success (with_reducible show wpAny _ _ (pyIter _) _ _ _)); first | (k_end; wrow_close) | walk1 | (dsimp only; walk1) | (leave1; walk_say "STEP leave1"; try dsimp only) | fail "no step"))
  rename AllLt _ _ => hlt0
  rename (∀ p ∈ news, p.1 < _) => hlt1
  rename IntsAre _ _ => hif
  rename News _ _ _ _ => N0
  have N1 := kst_newsOf (l' := _ :: _ :: news) N0 (fun p hp => by
    rcases List.mem_cons.mp hp with h | hp
    · exact h ▸ .tail _ (.head _)
    rcases List.mem_cons.mp hp with h | hp
    · exact h ▸ .head _
    exact .tail _ (.tail _ hp))
  clear N0
  refine iter_pairs [Str.ofString "prime", Str.ofString "many"] (fun i ps => ps = pairsB n k ((sieveP n.toNat).take i)) (by rfl) (.head _) hif (by assumption) N1 (List.forall_mem_cons.mpr ⟨Nat.ne_of_gt hlt0.1, ne_of_lt hlt1⟩) rfl ?_ ?_
  · intro its k9 ps rest i p t u h tk own hp9 hne hb hpa hP F1 N2
    have hpb := hsv p (List.mem_of_getElem? hp9)
    have hp0 := hpb.1
    have hp1 := hpb.2
    have hpl : (its.length : Int) ≤ 30 := by
      have a1 := hpa.length
      have a2 := pairsB_len n k ((sieveP n.toNat).take i)
      have a3 : ((sieveP n.toNat).take i).length ≤ (sieveP n.toNat).length := by rw [List.length_take]; omega
      rw [← hP] at a2
      omega
    try k_fold
    repeat' (first | (k_unfold; (try dsimp only)) | ((fail_if_success (with_reducible show Mine.GrowPost _ _ _ _ _ _ _ _ _)); first | (k_end; wrow_close) | walk1 | (dsimp only; walk1) | (leave1; walk_say "STEP leave1"; try dsimp only) | fail "no step"))
    · have hpos : 0 < feI n p - feI k p - feI (n - k) p := by assumption
      rename (_ < _ ∧ AllLt _ _) => hlt5
      rename News _ _ _ _ => N5
      rw [List.push_toArray] at N5
      refine GrowPost.next (grow_more (by assumption) N5 (.tail _ (.head _)) (.head _) (Nat.ne_of_gt hlt5.1) (fun _ h => .tail _ (.tail _ h)) hne hb hpa ?_ ?_)
      · rw [take_snoc' hp9, pairsB_snoc, hP, if_pos (show 0 < mB n k p from hpos)]; rfl
      · intro z hz
        simp only [List.contains_cons, List.contains_nil, Bool.or_false, Bool.or_eq_false_iff, beq_eq_false_iff_ne, ne_eq] at hz
        simp [hz]
    · have hpos : ¬ 0 < feI n p - feI k p - feI (n - k) p := by assumption
      refine GrowPost.next (grow_keep (by assumption) (by assumption) (.head _) (fun _ h => .tail _ h) hne hb hpa ?_ ?_)
      · rw [take_snoc' hp9, pairsB_snoc, hP, if_neg (show ¬ 0 < mB n k p from hpos), List.append_nil]
      · intro z hz
        simp only [List.contains_cons, List.contains_nil, Bool.or_false, Bool.or_eq_false_iff, beq_eq_false_iff_ne, ne_eq] at hz
        simp [hz]
  · intro its k9 ps rest u h tk hne hb hpa hP F1 N2
    rw [List.take_length] at hP
    have hpa2 := mono_of N2 hpa
    have hok : PairsOk ps := hP ▸ pairsB_ok h0 h1 hn hsv
    have hpe : prodP ps = prodP (pairsC n k (sieveP n.toNat)) := by rw [hP, prod_same h0 h1 hsv]
    have hT : prodP ps < 1152921504606846976 := by rw [hpe]; exact prodC_lt h0 h1 hn
    have hpl : ps.length ≤ 10 := by
      have := pairsB_len n k (sieveP n.toNat)
      rw [← hP] at this
      omega
    try k_fold
    k_steps
    exact ret_list hret (by assumption) (by assumption) (by k_mem) (fun p h => .tail _ (.tail _ (hb _ (.tail _ h)))) (fun p h => lt_of_allLt (by assumption) p (.tail _ (hb _ (.tail _ h)))) (by assumption) (by rw [hpe])

end BinomP
section DrawP
theorem fmod_bounds (a : Int) {b : Int} (h : 0 < b) : 0 ≤ Int.fmod a b ∧ Int.fmod a b < b := by
  rw [Int.fmod_eq_emod_of_nonneg _ (by omega)]
  exact ⟨Int.emod_nonneg _ (by omega), Int.emod_lt_of_pos _ h⟩
noncomputable def pool (G : Addr) (i x : Int) (ti tx : Tok) (n : Nat) : Obj := listOf (List.toArray [.ref G, .int i ti, .int x tx]) n
noncomputable def RDraw (G P : Addr) (rest : List (Addr × Obj)) (len many : Int) (r : Value) (nx : List (Addr × Obj)) : Prop :=
  ∃ v tv i x ti tx n, r = .int v tv ∧ nx = (P, pool G i x ti tx n) :: rest ∧ 0 ≤ v ∧ v < many ∧ 0 ≤ i ∧ i ≤ len ∧ 0 ≤ x ∧ x < 1000003
set_option maxRecDepth 100000 in
set_option maxHeartbeats 4000000 in
theorem draw_con (w : World) (mean : ExcName → Option Value) (mg mb : Str → Option Value) (rest : List (Addr × Obj)) (P G : Addr) (gi : List Value) (gs : List Int) (gn n : Nat) (i x many : Int) (ti tx tm : Tok)
    (hG : (G, listOf gi.toArray gn) ∈ rest) (hg : IntsAre gi gs) (hne : ∀ p ∈ rest, p.1 ≠ P) (h0 : 0 ≤ i) (h1 : i ≤ gs.length) (h2 : gs.length ≤ 1000) (h3 : 0 ≤ x) (h4 : x < 1000003) (hm : 0 < many) :
    Con w mean mg mb 116 1 ((P, pool G i x ti tx n) :: rest) [.ref P, .int many tm] (RDraw G P rest gs.length many) := by
  have hlen := hg.length
  unfold Con
  k_fill
  w_top off
  k_with_none
  k_with "call builtin:len" => (k_here; (with_reducible show wpAny _ _ (call (Value.builtin "len") [Value.ref _]) _ _ _); k_dflt (refine' kst_len ?k1W9 ?k2W9 ?k3W9 ?k4W9 ?_; (case k1W9 => k_asm); (case k2W9 => k_mem); (case k3W9 => exact IntsAre.length (by assumption)); (case k4W9 => omega); k_whole))
  k_with "subscriptTail" => (k_here; (with_reducible show wpAny _ _ (subscriptTail _ _ (Value.ref _) (Value.int _ _)) _ _ _); (with_unfolding_all refine' at_list ?k1W9 ?k2W9 ?k3W9 ?k4W9 ?k5W9 ?_ ?k6W9); (case k1W9 => assumption); (case k2W9 => k_mem); (case k3W9 => decide); (case k4W9 => decide); (case k5W9 => rfl); (case k6W9 => with_unfolding_all rfl); k_whole)
  intro dp un gd cn cs a ccd cl outer A₀ base h₀ L m s Q E B F X N T hk hd hu hret
  unfold pool at N
  refine wpAny_call ?_
  k_dflt ktr_enter
  k_steps
  · refine hret _ _ _ _ (by assumption) (by assumption) ⟨_, _, i + 1, x, _, tx, n, rfl, rfl, (fmod_bounds _ hm).1, (fmod_bounds _ hm).2, by omega, by omega, h3, h4⟩
  · refine hret _ _ _ _ (by assumption) (by assumption) ⟨_, _, i, _, ti, _, n, rfl, rfl, (fmod_bounds _ hm).1, (fmod_bounds _ hm).2, h0, h1, (fmod_bounds _ (by decide)).1, (fmod_bounds _ (by decide)).2⟩
theorem draw_use {w : World} {mean : ExcName → Option Value} {mg mb : Str → Option Value} {news : List (Addr × Obj)}
    {dp un : Nat} {gd : Option (List Code)} {cn : Str} {cs : Scope} {a : Addr} {ccd : Value} {cl : List (Str × Addr)} {outer : List Env} {A₀ : Around} {base h₀ : Heap} {L : Addr} {m : Str → Option Value} {s : Shared}
    {Q E : Value → Shared → Prop} {P G : Addr} {gi : List Value} {gs : List Int} {gn n : Nat} {i x many : Int} {ti tx tm : Tok} {g : Obj → List (Addr × Obj)}
    (B : Below A₀ base outer h₀) (F : Fr h₀ L s.heap m) (X : (hd.heap_39 w.params).In h₀) (N : News h₀ L s.heap news) (T : Top hd.view_39 (looseW hd.view_39 []) mean mg mb h₀) (hk : cs.kind = .function)
    (U : UpdF P (pool G i x ti tx n) news g) (hG : (G, listOf gi.toArray gn) ∈ news) (hgp : G ≠ P) (hg : IntsAre gi gs) (h0 : 0 ≤ i) (h1 : i ≤ gs.length) (h2 : gs.length ≤ 1000) (h3 : 0 ≤ x) (h4 : x < 1000003) (hm : 0 < many)
    (hd : dp + 1 < recursionLimit) (hu : un + 8 * 1 < cLine)
    (ret : ∀ v tv i' x' ti' tx' n' h' tk', Fr h₀ L h' m → News h₀ L h' (g (pool G i' x' ti' tx' n')) → 0 ≤ v → v < many → 0 ≤ i' → i' ≤ gs.length → 0 ≤ x' → x' < 1000003 → Q (.int v tv) { s with heap := h', toks := tk' }) :
    wpAny (model PySem.Challenge.rw_nz0079_01.row.prog w) (ktrTop dp un gd cn cs L a ccd cl outer) (call (.ref 116) [.ref P, .int many tm]) Q E s := by
  obtain ⟨pre, post, rfl, e2, ha, hb⟩ := U.split
  have hG' : (G, listOf gi.toArray gn) ∈ pre ++ post := by
    rcases List.mem_append.mp hG with h | h
    · exact List.mem_append_left _ h
    rcases List.mem_cons.mp h with h | h
    · exact absurd (congrArg Prod.fst h) hgp
    · exact List.mem_append_right _ h
  refine con_use B F X (news := (P, pool G i x ti tx n) :: (pre ++ post)) (kst_newsOf N fun p hp => ?_) T hk (draw_con _ _ _ _ _ _ _ _ _ _ _ _ _ _ _ _ _ hG' hg (fun p hp => ?_) h0 h1 h2 h3 h4 hm) hd hu ?_
  · rcases List.mem_cons.mp hp with rfl | hp
    · exact List.mem_append_right _ (.head _)
    rcases List.mem_append.mp hp with hp | hp
    · exact List.mem_append_left _ hp
    · exact List.mem_append_right _ (.tail _ hp)
  · rcases List.mem_append.mp hp with hp | hp
    · exact ha p hp
    · exact hb p hp
  · rintro r nx h' tk' F' N' ⟨v, tv, i', x', ti', tx', n', rfl, rfl, b1, b2, b3, b4, b5, b6⟩
    refine ret v tv i' x' ti' tx' n' h' tk' F' ?_ b1 b2 b3 b4 b5 b6
    rw [e2]
    refine kst_newsOf N' fun p hp => ?_
    rcases List.mem_append.mp hp with hp | hp
    · exact .tail _ (List.mem_append_left _ hp)
    rcases List.mem_cons.mp hp with rfl | hp
    · exact .head _
    · exact .tail _ (List.mem_append_right _ hp)

end DrawP
section Comp2P
section
open PySem.Calls PyProof.V PySem.Spec PyProof.Rows.LCg PyProof.Rows.LCt
variable {prog : Program} {w : World} {A : Around} {s : Shared} {h₀ : Heap} {L : Addr} {m : Str → Option Value} {env : Env}
noncomputable def TupEnd (h₀ : Heap) (L : Addr) (m : Str → Option Value) (s : Shared) (I : Addr) (oI : Obj) (C : Addr) (oC : Obj) (D : Addr) (oD : Obj) (news : List (Addr × Obj)) (p q : Int) (y : Value) (s' : Shared) : Prop :=
  ∃ T tp tq n h' tk', y = .ref T ∧ s' = { s with heap := h', toks := tk' } ∧ Fr h₀ L h' m ∧ News h₀ L h' ((T, ({ cls := .type "tuple", data := .seq #[.int p tp, .int q tq] n } : Obj)) :: (I, oI) :: (C, oC) :: (D, oD) :: news) ∧ I < T ∧ C < T ∧ D < T
theorem TupEnd.intro {I C D T : Addr} {oI oC oD : Obj} {news led : List (Addr × Obj)} {p q q' : Int} {tp tq : Tok} {n : Nat} {h' : Heap} {tk' : Nat} (F : Fr h₀ L h' m) (N : News h₀ L h' led) (hm : (T, ({ cls := .type "tuple", data := .seq #[.int p tp, .int q' tq] n } : Obj)) ∈ led)
    (hs : ∀ z ∈ (I, oI) :: (C, oC) :: (D, oD) :: news, z ∈ led) (h1 : I < T) (h2 : C < T) (h3 : D < T) (e : q' = q) : TupEnd h₀ L m s I oI C oC D oD news p q (.ref T) { s with heap := h', toks := tk' } := by
  subst e
  refine ⟨T, tp, tq, n, h', tk', rfl, rfl, F, fun z hz => ?_, h1, h2, h3⟩
  rcases List.mem_cons.mp hz with rfl | hz
  · exact N _ hm
  · exact N _ (hs z hz)
theorem rest_pairs {elt : PySem.Expr} {x : Str} {scope : Scope} {cl : List (Str × Addr)} {l : Addr} {vs : List Value} {k : Nat} {xs : List Int} {news0 : List (Addr × Obj)} {Fin : List Value → List (Addr × Obj) → Prop} (f : Int → Int)
    (hm : (l, listOf vs.toArray k) ∈ news0) (hi : IntsAre vs xs)
    (turn : ∀ p t I oI C oC D ys m₂ h tk (E' : Value → Shared → Prop) news, p ∈ xs → NsObj oC m₂ → m₂ x = some (.int p t) → Fr h₀ L h m → News h₀ L h (news0 ++ (I, oI) :: (C, oC) :: (D, lst ys) :: news) →
      wpAny (model prog w) A (eval elt (compEnvC scope cl C env)) (TupEnd h₀ L m s I oI C oC D (lst ys) news p (f p)) E' { s with heap := h, toks := tk })
    (fin : ∀ ys news, (∀ q ∈ news0, q ∈ news) → PairsAre news ys (xs.map fun p => (p, f p)) → Fin ys news) :
    CompRest prog w A h₀ L m env elt x scope cl s (SrcAt h₀ l vs.toArray) (fun i v => vs.toArray[i]? = some v) Fin vs.toArray.size 0 [] news0 := by
  have key : ∀ (j i : Nat) (ys : List Value) (news : List (Addr × Obj)), i + j = xs.length → (∀ q ∈ news0, q ∈ news) → PairsAre news ys ((xs.take i).map fun p => (p, f p)) →
      CompRest prog w A h₀ L m env elt x scope cl s (SrcAt h₀ l vs.toArray) (fun i v => vs.toArray[i]? = some v) Fin j i ys news := by
    intro j
    induction j with
    | zero =>
      intro i ys news hij hs hp
      refine CompRest.zero (fin ys news hs ?_)
      rw [List.take_of_length_le (by omega)] at hp
      exact hp
    | succ j ih =>
      intro i ys news hij hs hp
      refine CompRest.succ fun v I oI C oC D m₂ h tk E' hv hC hx F N off ne => ?_
      have hlt : i < xs.length := by omega
      obtain ⟨t, hv2⟩ := hi.get i xs[i] (by simp [hlt])
      have e : v = .int xs[i] t := by
        have hv' : vs[i]? = some v := by simpa using hv
        rw [hv2] at hv'; exact (Option.some.inj hv').symm
      subst e
      have N0 : News h₀ L h (news0 ++ (I, oI) :: (C, oC) :: (D, lst ys) :: news) := fun z hz => by
        rcases List.mem_append.mp hz with hz | hz
        · exact N z (.tail _ (.tail _ (.tail _ (hs z hz))))
        · exact N z hz
      refine wpAny_mono (turn xs[i] t I oI C oC D ys m₂ h tk E' news (List.getElem_mem hlt) hC hx F N0) (fun y s' q => ?_) fun _ _ q => q
      obtain ⟨T, tp, tq, n, h', tk', rfl, rfl, F', N', h1, h2, h3⟩ := q
      refine CompEnd.intro F' N' ((T, ({ cls := .type "tuple", data := .seq #[.int xs[i] tp, .int (f xs[i]) tq] n } : Obj)) :: news) (fun z hz => ?_) ⟨⟨Nat.ne_of_gt h1, Nat.ne_of_gt h2, Nat.ne_of_gt h3⟩, off⟩ (.inr ⟨_, .tail _ (hs _ hm), rfl, _, rfl⟩) (ih (i + 1) _ _ (by omega) (fun q hq => .tail _ (hs q hq)) ?_)
      · rcases List.mem_cons.mp hz with rfl | hz
        · exact .tail _ (.head _)
        rcases List.mem_cons.mp hz with rfl | hz
        · exact .tail _ (.tail _ (.head _))
        rcases List.mem_cons.mp hz with rfl | hz
        · exact .tail _ (.tail _ (.tail _ (.head _)))
        rcases List.mem_cons.mp hz with rfl | hz
        · exact .head _
        · exact .tail _ (.tail _ (.tail _ (.tail _ hz)))
      · rw [take_snoc' (x := xs[i]) (by simp [hlt]), List.map_append]
        exact PairsAre.snoc (hp.mono fun _ h => .tail _ h) (.head _)
  have hl := hi.length
  rw [List.size_toArray, hl]
  exact key xs.length 0 [] news0 (Nat.zero_add _) (fun _ h => h) .nil
noncomputable def KeepF (h₀ : Heap) (L : Addr) (m : Str → Option Value) (s : Shared) (led : List (Addr × Obj)) (ok : Bool) (s' : Shared) : Prop := ok = false ∧ ∃ h' tk', s' = { s with heap := h', toks := tk' } ∧ Fr h₀ L h' m ∧ News h₀ L h' led
theorem KeepF.intro {led all : List (Addr × Obj)} {ok : Bool} {h' : Heap} {tk' : Nat} (F : Fr h₀ L h' m) (N : News h₀ L h' all) (hs : ∀ z ∈ led, z ∈ all) (e : ok = false) : KeepF h₀ L m s led ok { s with heap := h', toks := tk' } := ⟨e, h', tk', rfl, F, fun z hz => N z (hs z hz)⟩
theorem PairsAre.at {news : List (Addr × Obj)} {vs : List Value} {ps : List (Int × Int)} (h : PairsAre news vs ps) : ∀ {i : Nat} {v : Value}, vs[i]? = some v → ∃ T p q tp tq n, v = .ref T ∧ (p, q) ∈ ps ∧ (T, ({ cls := .type "tuple", data := .seq #[.int p tp, .int q tq] n } : Obj)) ∈ news := by
  induction h with
  | nil => intro i v h; simp at h
  | cons hm _ ih =>
    intro i v h
    cases i with
    | zero => cases h; exact ⟨_, _, _, _, _, _, rfl, .head _, hm⟩
    | succ i =>
      obtain ⟨T, p, q, tp, tq, n, e, h1, h2⟩ := ih h
      exact ⟨T, p, q, tp, tq, n, e, .tail _ h1, h2⟩
theorem rest_false {ct elt : PySem.Expr} {x : Str} {scope : Scope} {cl : List (Str × Addr)} {l : Addr} {vs : List Value} {k : Nat} {ps : List (Int × Int)} {news : List (Addr × Obj)} {Fin : List Value → List (Addr × Obj) → Prop}
    (hm : (l, listOf vs.toArray k) ∈ news) (hi : PairsAre news vs ps)
    (turn : ∀ T p q tp tq n I oI C oC D m₂ h tk (E' : Value → Shared → Prop), (p, q) ∈ ps → (T, ({ cls := .type "tuple", data := .seq #[.int p tp, .int q tq] n } : Obj)) ∈ (I, oI) :: (C, oC) :: (D, lst []) :: news → NsObj oC m₂ → m₂ x = some (.ref T) → Fr h₀ L h m → News h₀ L h ((I, oI) :: (C, oC) :: (D, lst []) :: news) →
      wpAny (model prog w) A (isTrue ct (compEnvC scope cl C env) (eval ct (compEnvC scope cl C env))) (KeepF h₀ L m s ((I, oI) :: (C, oC) :: (D, lst []) :: news)) E' { s with heap := h, toks := tk })
    (fin : Fin [] news) :
    CompRestT prog w A h₀ L m env ct elt x scope cl s (SrcAt h₀ l vs.toArray) (fun i v => vs.toArray[i]? = some v) Fin vs.toArray.size 0 [] news := by
  have key : ∀ (j i : Nat), CompRestT prog w A h₀ L m env ct elt x scope cl s (SrcAt h₀ l vs.toArray) (fun i v => vs.toArray[i]? = some v) Fin j i [] news := by
    intro j
    induction j with
    | zero => exact fun i => CompRestT.zero fin
    | succ j ih =>
      intro i
      refine CompRestT.succ fun v I oI C oC D m₂ h tk E' hv hC hx F N off ne => ?_
      obtain ⟨T, p, q, tp, tq, n, rfl, h1, h2⟩ := hi.at (i := i) (v := v) (by simpa using hv)
      refine wpAny_mono (turn T p q tp tq n I oI C oC D m₂ h tk E' h1 (.tail _ (.tail _ (.tail _ h2))) hC hx F N) (fun ok s' z => ?_) fun _ _ q => q
      obtain ⟨rfl, h', tk', rfl, F', N'⟩ := z
      simp only [Bool.false_eq_true, if_false]
      exact CompEnd.intro F' N' news (fun _ h => h) off (.inr ⟨_, hm, rfl, _, rfl⟩) (ih (i + 1))
  exact key _ 0
theorem off1_mem {D : Addr} : ∀ {l : List (Addr × Obj)}, Off1 D l → ∀ p ∈ l, @Ne Nat p.1 D
  | [], _, _, hp => nomatch hp
  | _ :: _, h, p, hp => by
    rcases List.mem_cons.mp hp with rfl | hp
    · exact h.1
    · exact off1_mem h.2 p hp
theorem off1_of {D : Addr} : ∀ {l : List (Addr × Obj)}, (∀ p ∈ l, @Ne Nat p.1 D) → Off1 D l
  | [], _ => trivial
  | _ :: _, h => ⟨h _ (.head _), off1_of fun q hq => h q (.tail _ hq)⟩
theorem fin_A {y : Str} {Q : Flow → Shared → Prop} {ys : List Value} {news news0 : List (Addr × Obj)} (hs : ∀ q ∈ news0, q ∈ news)
    (h : ∀ D h tk, Fr h₀ L h (fun z => if z = y then some (.ref D) else m z) → News h₀ L h ((D, listOf ys.toArray ys.length) :: (news0 ++ news)) → Off1 D news0 → Q .next { s with heap := h, toks := tk }) : FinA h₀ L m s y Q ys news :=
  fun D g tk F N o => h D g tk F (fun z hz => by
    rcases List.mem_cons.mp hz with rfl | hz
    · exact N _ (.head _)
    rcases List.mem_append.mp hz with hz | hz
    · exact N z (.tail _ (hs z hz))
    · exact N z (.tail _ hz)) (off1_of fun p hp => off1_mem o p (hs p hp))
theorem take_news {h₀ h : Heap} {L : Addr} {l : List (Addr × Obj)} (k : Nat) (N : News h₀ L h l) : News h₀ L h (l.take k) := fun p hp => N p (List.mem_of_mem_take hp)
end

end Comp2P
section LawP
theorem pool_len (l : List Int) : (List.map (fun k' => if k' < 0 then -k' else k') (List.take 20 l)).length ≤ 1000 := by
  rw [List.length_map, List.length_take]; omega
theorem sum_fmod : ∀ l : List Int, 0 ≤ (l.map fun k' => k'.fmod 9973).sum ∧ (l.map fun k' => k'.fmod 9973).sum ≤ 9972 * l.length
  | [] => ⟨Int.le_refl _, Int.le_refl _⟩
  | a :: r => by
    have ih := sum_fmod r
    have := fmod_bounds a (b := 9973) (by decide)
    rw [List.map_cons, List.sum_cons, List.length_cons]
    omega
theorem pool_sum (l : List Int) : 0 ≤ 11 + (List.map (fun k' => k'.fmod 9973) (List.map (fun k' => if k' < 0 then -k' else k') (List.take 20 l))).sum ∧ 11 + (List.map (fun k' => k'.fmod 9973) (List.map (fun k' => if k' < 0 then -k' else k') (List.take 20 l))).sum < 1000003 := by
  have h := sum_fmod (List.map (fun k' => if k' < 0 then -k' else k') (List.take 20 l))
  have : (List.map (fun k' => if k' < 0 then -k' else k') (List.take 20 l)).length ≤ 20 := by
    rw [List.length_map, List.length_take]; omega
  omega
theorem prime_in0 : ∀ i : Fin 10, 2 ≤ ([2, 3, 5, 7, 11, 13, 17, 19, 23, 29] : List Int).getD i.val 0 ∧ ([2, 3, 5, 7, 11, 13, 17, 19, 23, 29] : List Int).getD i.val 0 < 100 := by decide
theorem prime_in {v : Int} (h0 : 0 ≤ v) (h1 : v < 10) : 2 ≤ ([2, 3, 5, 7, 11, 13, 17, 19, 23, 29] : List Int).getD v.toNat 0 ∧ ([2, 3, 5, 7, 11, 13, 17, 19, 23, 29] : List Int).getD v.toNat 0 < 100 := prime_in0 ⟨v.toNat, by omega⟩
theorem ne_f {a b : Int} (h : a = b) : ¬ ((a != b) = true) := by simp [h]
theorem law_leg {n p : Int} (h0 : 0 ≤ n) (hp : 2 ≤ p) : feI n p * (p - 1) = n - (dig p.toNat n.toNat).sum := by
  have h := legendre (p := p.toNat) (by omega) n.toNat
  rw [Int.toNat_of_nonneg (show 0 ≤ p by omega), Int.toNat_of_nonneg h0] at h
  exact h
theorem law_succ {n p : Int} (h0 : 0 ≤ n) (hp : 2 ≤ p) : feI (n + 1) p = feI n p + (vp p.toNat (n + 1).toNat : Nat) := by
  have h := fe_succ (p := p.toNat) (by omega) n.toNat
  unfold feI
  rw [show (n + 1).toNat = n.toNat + 1 by omega, h]
  push_cast; rfl
theorem law_kum {n k p : Int} (h0 : 0 ≤ k) (h1 : k ≤ n) (hp : 2 ≤ p) : feI n p - feI k p - feI (n - k) p = (ca p.toNat k.toNat (n - k).toNat 0 : Nat) := mB_eq h0 h1 hp
theorem law_swing {n p : Int} (h0 : 0 ≤ n) (hp : 2 ≤ p) : ((sw p.toNat (n.toNat / p.toNat) : Nat) : Int) = feI n p - 2 * feI (Int.fdiv n 2) p := by
  have h := swing_fe (p := p.toNat) (by omega) n.toNat
  unfold feI
  rw [show (Int.fdiv n 2).toNat = n.toNat / 2 by rw [fdiv2]; omega]
  omega
theorem pow_cast {b m : Int} (h0 : 0 ≤ b) : (1 + b) ^ m.toNat = (((1 + b).toNat ^ m.toNat : Nat) : Int) := by
  obtain ⟨k, hk⟩ := Int.eq_ofNat_of_zero_le (show 0 ≤ 1 + b by omega)
  rw [hk, Int.toNat_natCast, Int.natCast_pow]
theorem pow_row {b m : Int} (h0 : 0 ≤ b) (h : (1 + b).toNat ^ m.toNat < 1152921504606846976) : 0 ≤ (1 + b) ^ m.toNat ∧ (1 + b) ^ m.toNat < 1152921504606846976 ∧ (1 + b).toNat ^ m.toNat = ((1 + b) ^ m.toNat).toNat := by
  rw [pow_cast h0, Int.toNat_natCast]
  omega
section
open PySem.Calls
theorem eq_lists {prog : Program} {w : World} {A : Around} {E : Value → Shared → Prop} {s : Shared} {a b : Addr} {xs ys : List Value} {ns ms : List Int} {Q : Value → Shared → Prop}
    (ha : s.heap.IsList a xs.toArray) (hb : s.heap.IsList b ys.toArray) (hi : IntsAre xs ns) (hj : IntsAre ys ms) (hu : A.units + 64 < cLine) (e : ns = ms) (h : Q (.bool true) s) :
    wpAny (model prog w) A (compareOp .Eq (.ref a) (.ref b)) Q E s := ke_eq_ints ha hb hi hj hu (by rw [decide_eq_true e]; exact h)
end
theorem pow_small {b m : Int} (h0 : 0 ≤ b) (h1 : b < 40) (h2 : 0 ≤ m) (h3 : m < 12) : (1 + b).toNat ^ m.toNat < 1152921504606846976 := by
  have a1 : (1 + b).toNat ^ m.toNat ≤ 40 ^ m.toNat := Nat.pow_le_pow_left (by omega) _
  have a2 : 40 ^ m.toNat ≤ 40 ^ 11 := Nat.pow_le_pow_right (by decide) (by omega)
  have a3 : (40 : Nat) ^ 11 < 1152921504606846976 := by decide
  omega
section
variable {h₀ h : Heap} {L : Addr} {a b c d e f : Addr × Obj} {r : List (Addr × Obj)}
theorem nd0 (N : News h₀ L h (a :: r)) : News h₀ L h r := kst_newsOf N fun _ hp => .tail _ hp
theorem nd1 (N : News h₀ L h (a :: b :: r)) : News h₀ L h (a :: r) := kst_newsOf N fun _ hp => by
  rcases List.mem_cons.mp hp with rfl | hp
  · exact .head _
  · exact .tail _ (.tail _ hp)
theorem nd2 (N : News h₀ L h (a :: b :: c :: r)) : News h₀ L h (a :: b :: r) := kst_newsOf N fun _ hp => by
  rcases List.mem_cons.mp hp with rfl | hp
  · exact .head _
  rcases List.mem_cons.mp hp with rfl | hp
  · exact .tail _ (.head _)
  · exact .tail _ (.tail _ (.tail _ hp))
theorem nd3 (N : News h₀ L h (a :: b :: c :: d :: r)) : News h₀ L h (a :: b :: c :: r) := kst_newsOf N fun _ hp => by
  rcases List.mem_cons.mp hp with rfl | hp
  · exact .head _
  rcases List.mem_cons.mp hp with rfl | hp
  · exact .tail _ (.head _)
  rcases List.mem_cons.mp hp with rfl | hp
  · exact .tail _ (.tail _ (.head _))
  · exact .tail _ (.tail _ (.tail _ (.tail _ hp)))
end
set_option maxRecDepth 100000 in
set_option maxHeartbeats 8000000 in
theorem law_holds : PySem.Challenge.rw_nz0079_01.Holds := by
  w_top off
  refine hd ?_
  k_go0
  all_goals try k_fold
  w_top off
  k_with_none
  k_with "call builtin:len" => (k_here; (with_reducible show wpAny _ _ (call (Value.builtin "len") [Value.ref _]) _ _ _); k_dflt (refine' kst_len ?k1W9 ?k2W9 ?k3W9 ?k4W9 ?_; (case k1W9 => k_asm); (case k2W9 => k_mem); (case k3W9 => exact IntsAre.length (by assumption)); (case k4W9 => omega); k_whole))
  repeat' (first | (k_unfold; (try dsimp only)) | ((fail_if_success (with_reducible show wpAny _ _ (call (Value.ref _) _) _ _ _)); first | (k_end; wrow_close) | walk1 | (dsimp only; walk1) | (leave1; walk_say "STEP leave1"; try dsimp only) | fail "no step"))
  walk1
  repeat' (first | (k_unfold; (try dsimp only)) | ((fail_if_success (with_reducible show wpAny _ _ (call (Value.ref _) _) _ _ _)); first | (k_end; wrow_close) | walk1 | (dsimp only; walk1) | (leave1; walk_say "STEP leave1"; try dsimp only) | fail "no step"))
  (rename News _ _ _ _ => lN; replace lN := Mine.nd2 lN)
  (rename News _ _ _ _ => lN; replace lN := Mine.nd3 lN)
  (rename News _ _ _ _ => lN; replace lN := Mine.nd3 lN)
  ((with_reducible show wpAny _ _ (call (Value.ref 116) _) _ _ _); k_dflt (refine' draw_use ?k1 ?k2 ?k3 ?k4 ?k5 ?kK ?U ?c1 ?c2 ?c3 ?c4 ?c5 ?c6 ?c7 ?c8 ?c9 ?kd ?ku ?_); (case k1 => k_asm); (case k2 => k_asm); (case k3 => k_asm); (case k4 => k_asm); (case k5 => k_asm); (case kK => first | exact rfl | assumption); (case U => k_dflt k_updF); (case c1 => k_mem); (case c2 => k_ne); (case c3 => assumption); (case c4 => omega); (case c5 => omega); (case c6 => exact pool_len _); (case c7 => first | omega | exact (pool_sum _).1); (case c8 => first | omega | exact (pool_sum _).2); (case c9 => omega); (case kd => first | ktr_room | decide); (case ku => first | ktr_units | decide); (intro vp tvp i9 x9 ti9 tx9 n9 h9 tk9 F9 N9 hvp0 hvp1 hvp3 hvp4 hvp5 hvp6); (try dsimp only); (try k_fold))
  have hpr := prime_in hvp0 hvp1
  repeat' (first | (k_unfold; (try dsimp only)) | ((fail_if_success (with_reducible show wpAny _ _ (call (Value.ref _) _) _ _ _)); first | (k_end; wrow_close) | walk1 | (dsimp only; walk1) | (leave1; walk_say "STEP leave1"; try dsimp only) | fail "no step"))
  (rename News _ _ _ _ => lN; replace lN := Mine.nd0 lN)
  ((with_reducible show wpAny _ _ (call (Value.ref 116) _) _ _ _); k_dflt (refine' draw_use ?k1 ?k2 ?k3 ?k4 ?k5 ?kK ?U ?c1 ?c2 ?c3 ?c4 ?c5 ?c6 ?c7 ?c8 ?c9 ?kd ?ku ?_); (case k1 => k_asm); (case k2 => k_asm); (case k3 => k_asm); (case k4 => k_asm); (case k5 => k_asm); (case kK => first | exact rfl | assumption); (case U => k_dflt k_updF); (case c1 => k_mem); (case c2 => k_ne); (case c3 => assumption); (case c4 => omega); (case c5 => omega); (case c6 => exact pool_len _); (case c7 => first | omega | exact (pool_sum _).1); (case c8 => first | omega | exact (pool_sum _).2); (case c9 => omega); (case kd => first | ktr_room | decide); (case ku => first | ktr_units | decide); (intro vn tvn i9 x9 ti9 tx9 n9 h9 tk9 F9 N9 hvn0 hvn1 hvn3 hvn4 hvn5 hvn6); (try dsimp only); (try k_fold))
  repeat' (first | (k_unfold; (try dsimp only)) | ((fail_if_success (with_reducible show wpAny _ _ (call (Value.ref _) _) _ _ _)); first | (k_end; wrow_close) | walk1 | (dsimp only; walk1) | (leave1; walk_say "STEP leave1"; try dsimp only) | fail "no step"))
  ((with_reducible show wpAny _ _ (call (Value.ref 95) _) _ _ _); k_dflt (refine' con_use ?k1 ?k2 ?k3 ?k4 ?k5 ?kK (fe_con _ _ _ _ _ _ _ _ _ ?c1 ?c2 ?c3 ?c4) ?kd ?ku ?_); (case k1 => k_asm); (case k2 => k_asm); (case k3 => k_asm); (case k4 => k_asm); (case k5 => k_asm); (case kK => first | exact rfl | assumption); (case c1 => omega); (case c2 => omega); (case c3 => omega); (case c4 => omega); (case kd => first | ktr_room | decide); (case ku => first | ktr_units | decide); (rintro r9 nx9 h9 tk9 F9 N9 ⟨e9', t9, e9⟩; subst e9; subst e9'); (try simp only [AllLt, and_true] at hl9); (try dsimp only); (try k_fold))
  repeat' (first | (k_unfold; (try dsimp only)) | ((fail_if_success (with_reducible show wpAny _ _ (call (Value.ref _) _) _ _ _)); first | (k_end; wrow_close) | walk1 | (dsimp only; walk1) | (leave1; walk_say "STEP leave1"; try dsimp only) | fail "no step"))
  ((with_reducible show wpAny _ _ (call (Value.ref 147) _) _ _ _); k_dflt (refine' con_use ?k1 ?k2 ?k3 ?k4 ?k5 ?kK (figs_con _ _ _ _ _ _ _ _ _ ?c1 ?c2 ?c3 ?c4) ?kd ?ku ?_); (case k1 => k_asm); (case k2 => k_asm); (case k3 => k_asm); (case k4 => k_asm); (case k5 => k_asm); (case kK => first | exact rfl | assumption); (case c1 => omega); (case c2 => omega); (case c3 => omega); (case c4 => omega); (case kd => first | ktr_room | decide); (case ku => first | ktr_units | decide); (rintro r9 nx9 h9 tk9 F9 N9 ⟨a9, its9, n9, e9, e9', hl9, hi9⟩; subst e9; subst e9'); (try simp only [AllLt, and_true] at hl9); (try dsimp only); (try k_fold))
  repeat' (first | (k_unfold; (try dsimp only)) | ((fail_if_success (with_reducible show @ite Prop _ _ _ _)); first | (k_end; wrow_close) | walk1 | (dsimp only; walk1) | (leave1; walk_say "STEP leave1"; try dsimp only) | fail "no step"))
  refine Mine.if_f (ne_f (law_leg hvn0 hpr.1)) ?_
  (rename News _ _ _ _ => lN; replace lN := Mine.nd0 lN)
  repeat' (first | (k_unfold; (try dsimp only)) | ((fail_if_success (with_reducible show wpAny _ _ (call (Value.ref _) _) _ _ _)); first | (k_end; wrow_close) | walk1 | (dsimp only; walk1) | (leave1; walk_say "STEP leave1"; try dsimp only) | fail "no step"))
  ((with_reducible show wpAny _ _ (call (Value.ref 95) _) _ _ _); k_dflt (refine' con_use ?k1 ?k2 ?k3 ?k4 ?k5 ?kK (fe_con _ _ _ _ _ _ _ _ _ ?c1 ?c2 ?c3 ?c4) ?kd ?ku ?_); (case k1 => k_asm); (case k2 => k_asm); (case k3 => k_asm); (case k4 => k_asm); (case k5 => k_asm); (case kK => first | exact rfl | assumption); (case c1 => omega); (case c2 => omega); (case c3 => omega); (case c4 => omega); (case kd => first | ktr_room | decide); (case ku => first | ktr_units | decide); (rintro r9 nx9 h9 tk9 F9 N9 ⟨e9', t9, e9⟩; subst e9; subst e9'); (try simp only [AllLt, and_true] at hl9); (try dsimp only); (try k_fold))
  repeat' (first | (k_unfold; (try dsimp only)) | ((fail_if_success (with_reducible show wpAny _ _ (call (Value.ref _) _) _ _ _)); first | (k_end; wrow_close) | walk1 | (dsimp only; walk1) | (leave1; walk_say "STEP leave1"; try dsimp only) | fail "no step"))
  ((with_reducible show wpAny _ _ (call (Value.ref 154) _) _ _ _); k_dflt (refine' con_use ?k1 ?k2 ?k3 ?k4 ?k5 ?kK (stands_con _ _ _ _ _ _ _ _ _ ?c1 ?c2 ?c3 ?c4) ?kd ?ku ?_); (case k1 => k_asm); (case k2 => k_asm); (case k3 => k_asm); (case k4 => k_asm); (case k5 => k_asm); (case kK => first | exact rfl | assumption); (case c1 => omega); (case c2 => omega); (case c3 => omega); (case c4 => omega); (case kd => first | ktr_room | decide); (case ku => first | ktr_units | decide); (rintro r9 nx9 h9 tk9 F9 N9 ⟨e9', t9, e9⟩; subst e9; subst e9'); (try simp only [AllLt, and_true] at hl9); (try dsimp only); (try k_fold))
  repeat' (first | (k_unfold; (try dsimp only)) | ((fail_if_success (with_reducible show @ite Prop _ _ _ _)); first | (k_end; wrow_close) | walk1 | (dsimp only; walk1) | (leave1; walk_say "STEP leave1"; try dsimp only) | fail "no step"))
  refine Mine.if_f (ne_f (law_succ hvn0 hpr.1)) ?_
  repeat' (first | (k_unfold; (try dsimp only)) | ((fail_if_success (with_reducible show wpAny _ _ (call (Value.ref _) _) _ _ _)); first | (k_end; wrow_close) | walk1 | (dsimp only; walk1) | (leave1; walk_say "STEP leave1"; try dsimp only) | fail "no step"))
  ((with_reducible show wpAny _ _ (call (Value.ref 116) _) _ _ _); k_dflt (refine' draw_use ?k1 ?k2 ?k3 ?k4 ?k5 ?kK ?U ?c1 ?c2 ?c3 ?c4 ?c5 ?c6 ?c7 ?c8 ?c9 ?kd ?ku ?_); (case k1 => k_asm); (case k2 => k_asm); (case k3 => k_asm); (case k4 => k_asm); (case k5 => k_asm); (case kK => first | exact rfl | assumption); (case U => k_dflt k_updF); (case c1 => k_mem); (case c2 => k_ne); (case c3 => assumption); (case c4 => omega); (case c5 => omega); (case c6 => exact pool_len _); (case c7 => first | omega | exact (pool_sum _).1); (case c8 => first | omega | exact (pool_sum _).2); (case c9 => omega); (case kd => first | ktr_room | decide); (case ku => first | ktr_units | decide); (intro vk tvk i9 x9 ti9 tx9 n9 h9 tk9 F9 N9 hvk0 hvk1 hvk3 hvk4 hvk5 hvk6); (try dsimp only); (try k_fold))
  repeat' (first | (k_unfold; (try dsimp only)) | ((fail_if_success (with_reducible show wpAny _ _ (call (Value.ref _) _) _ _ _)); first | (k_end; wrow_close) | walk1 | (dsimp only; walk1) | (leave1; walk_say "STEP leave1"; try dsimp only) | fail "no step"))
  ((with_reducible show wpAny _ _ (call (Value.ref 95) _) _ _ _); k_dflt (refine' con_use ?k1 ?k2 ?k3 ?k4 ?k5 ?kK (fe_con _ _ _ _ _ _ _ _ _ ?c1 ?c2 ?c3 ?c4) ?kd ?ku ?_); (case k1 => k_asm); (case k2 => k_asm); (case k3 => k_asm); (case k4 => k_asm); (case k5 => k_asm); (case kK => first | exact rfl | assumption); (case c1 => omega); (case c2 => omega); (case c3 => omega); (case c4 => omega); (case kd => first | ktr_room | decide); (case ku => first | ktr_units | decide); (rintro r9 nx9 h9 tk9 F9 N9 ⟨e9', t9, e9⟩; subst e9; subst e9'); (try simp only [AllLt, and_true] at hl9); (try dsimp only); (try k_fold))
  repeat' (first | (k_unfold; (try dsimp only)) | ((fail_if_success (with_reducible show wpAny _ _ (call (Value.ref _) _) _ _ _)); first | (k_end; wrow_close) | walk1 | (dsimp only; walk1) | (leave1; walk_say "STEP leave1"; try dsimp only) | fail "no step"))
  ((with_reducible show wpAny _ _ (call (Value.ref 95) _) _ _ _); k_dflt (refine' con_use ?k1 ?k2 ?k3 ?k4 ?k5 ?kK (fe_con _ _ _ _ _ _ _ _ _ ?c1 ?c2 ?c3 ?c4) ?kd ?ku ?_); (case k1 => k_asm); (case k2 => k_asm); (case k3 => k_asm); (case k4 => k_asm); (case k5 => k_asm); (case kK => first | exact rfl | assumption); (case c1 => omega); (case c2 => omega); (case c3 => omega); (case c4 => omega); (case kd => first | ktr_room | decide); (case ku => first | ktr_units | decide); (rintro r9 nx9 h9 tk9 F9 N9 ⟨e9', t9, e9⟩; subst e9; subst e9'); (try simp only [AllLt, and_true] at hl9); (try dsimp only); (try k_fold))
  repeat' (first | (k_unfold; (try dsimp only)) | ((fail_if_success (with_reducible show wpAny _ _ (call (Value.ref _) _) _ _ _)); first | (k_end; wrow_close) | walk1 | (dsimp only; walk1) | (leave1; walk_say "STEP leave1"; try dsimp only) | fail "no step"))
  ((with_reducible show wpAny _ _ (call (Value.ref 161) _) _ _ _); k_dflt (refine' con_use ?k1 ?k2 ?k3 ?k4 ?k5 ?kK (carries_con _ _ _ _ _ _ _ _ _ _ _ ?c1 ?c2 ?c3 ?c4 ?c5 ?c6) ?kd ?ku ?_); (case k1 => k_asm); (case k2 => k_asm); (case k3 => k_asm); (case k4 => k_asm); (case k5 => k_asm); (case kK => first | exact rfl | assumption); (case c1 => omega); (case c2 => omega); (case c3 => omega); (case c4 => omega); (case c5 => omega); (case c6 => omega); (case kd => first | ktr_room | decide); (case ku => first | ktr_units | decide); (rintro r9 nx9 h9 tk9 F9 N9 ⟨e9', t9, e9⟩; subst e9; subst e9'); (try simp only [AllLt, and_true] at hl9); (try dsimp only); (try k_fold))
  repeat' (first | (k_unfold; (try dsimp only)) | ((fail_if_success (with_reducible show @ite Prop _ _ _ _)); first | (k_end; wrow_close) | walk1 | (dsimp only; walk1) | (leave1; walk_say "STEP leave1"; try dsimp only) | fail "no step"))
  refine Mine.if_f (ne_f (law_kum hvk0 (Int.le_of_lt_add_one hvk1) hpr.1)) ?_
  repeat' (first | (k_unfold; (try dsimp only)) | ((fail_if_success (with_reducible show wpAny _ _ (call (Value.ref _) _) _ _ _)); first | (k_end; wrow_close) | walk1 | (dsimp only; walk1) | (leave1; walk_say "STEP leave1"; try dsimp only) | fail "no step"))
  ((with_reducible show wpAny _ _ (call (Value.ref 88) _) _ _ _); k_dflt (refine' con_use ?k1 ?k2 ?k3 ?k4 ?k5 ?kK (swing_con _ _ _ _ _ _ _ _ _ ?c1 ?c2 ?c3 ?c4) ?kd ?ku ?_); (case k1 => k_asm); (case k2 => k_asm); (case k3 => k_asm); (case k4 => k_asm); (case k5 => k_asm); (case kK => first | exact rfl | assumption); (case c1 => omega); (case c2 => omega); (case c3 => omega); (case c4 => omega); (case kd => first | ktr_room | decide); (case ku => first | ktr_units | decide); (rintro r9 nx9 h9 tk9 F9 N9 ⟨e9', t9, e9⟩; subst e9; subst e9'); (try simp only [AllLt, and_true] at hl9); (try dsimp only); (try k_fold))
  have hfd : 0 ≤ Int.fdiv vn 2 ∧ Int.fdiv vn 2 < 100000 := by rw [fdiv2]; omega
  repeat' (first | (k_unfold; (try dsimp only)) | ((fail_if_success (with_reducible show wpAny _ _ (call (Value.ref _) _) _ _ _)); first | (k_end; wrow_close) | walk1 | (dsimp only; walk1) | (leave1; walk_say "STEP leave1"; try dsimp only) | fail "no step"))
  ((with_reducible show wpAny _ _ (call (Value.ref 95) _) _ _ _); k_dflt (refine' con_use ?k1 ?k2 ?k3 ?k4 ?k5 ?kK (fe_con _ _ _ _ _ _ _ _ _ ?c1 ?c2 ?c3 ?c4) ?kd ?ku ?_); (case k1 => k_asm); (case k2 => k_asm); (case k3 => k_asm); (case k4 => k_asm); (case k5 => k_asm); (case kK => first | exact rfl | assumption); (case c1 => omega); (case c2 => omega); (case c3 => omega); (case c4 => omega); (case kd => first | ktr_room | decide); (case ku => first | ktr_units | decide); (rintro r9 nx9 h9 tk9 F9 N9 ⟨e9', t9, e9⟩; subst e9; subst e9'); (try simp only [AllLt, and_true] at hl9); (try dsimp only); (try k_fold))
  repeat' (first | (k_unfold; (try dsimp only)) | ((fail_if_success (with_reducible show @ite Prop _ _ _ _)); first | (k_end; wrow_close) | walk1 | (dsimp only; walk1) | (leave1; walk_say "STEP leave1"; try dsimp only) | fail "no step"))
  refine Mine.if_f (ne_f (law_swing hvn0 hpr.1)) ?_
  repeat' (first | (k_unfold; (try dsimp only)) | ((fail_if_success (with_reducible show wpAny _ _ (call (Value.ref _) _) _ _ _)); first | (k_end; wrow_close) | walk1 | (dsimp only; walk1) | (leave1; walk_say "STEP leave1"; try dsimp only) | fail "no step"))
  ((with_reducible show wpAny _ _ (call (Value.ref 116) _) _ _ _); k_dflt (refine' draw_use ?k1 ?k2 ?k3 ?k4 ?k5 ?kK ?U ?c1 ?c2 ?c3 ?c4 ?c5 ?c6 ?c7 ?c8 ?c9 ?kd ?ku ?_); (case k1 => k_asm); (case k2 => k_asm); (case k3 => k_asm); (case k4 => k_asm); (case k5 => k_asm); (case kK => first | exact rfl | assumption); (case U => k_dflt k_updF); (case c1 => k_mem); (case c2 => k_ne); (case c3 => assumption); (case c4 => omega); (case c5 => omega); (case c6 => exact pool_len _); (case c7 => first | omega | exact (pool_sum _).1); (case c8 => first | omega | exact (pool_sum _).2); (case c9 => omega); (case kd => first | ktr_room | decide); (case ku => first | ktr_units | decide); (intro vw tvw i9 x9 ti9 tx9 n9 h9 tk9 F9 N9 hvw0 hvw1 hvw3 hvw4 hvw5 hvw6); (try dsimp only); (try k_fold))
  repeat' (first | (k_unfold; (try dsimp only)) | ((fail_if_success (with_reducible show wpAny _ _ (call (Value.ref _) _) _ _ _)); first | (k_end; wrow_close) | walk1 | (dsimp only; walk1) | (leave1; walk_say "STEP leave1"; try dsimp only) | fail "no step"))
  ((with_reducible show wpAny _ _ (call (Value.ref 116) _) _ _ _); k_dflt (refine' draw_use ?k1 ?k2 ?k3 ?k4 ?k5 ?kK ?U ?c1 ?c2 ?c3 ?c4 ?c5 ?c6 ?c7 ?c8 ?c9 ?kd ?ku ?_); (case k1 => k_asm); (case k2 => k_asm); (case k3 => k_asm); (case k4 => k_asm); (case k5 => k_asm); (case kK => first | exact rfl | assumption); (case U => k_dflt k_updF); (case c1 => k_mem); (case c2 => k_ne); (case c3 => assumption); (case c4 => omega); (case c5 => omega); (case c6 => exact pool_len _); (case c7 => first | omega | exact (pool_sum _).1); (case c8 => first | omega | exact (pool_sum _).2); (case c9 => omega); (case kd => first | ktr_room | decide); (case ku => first | ktr_units | decide); (intro vs tvs i9 x9 ti9 tx9 n9 h9 tk9 F9 N9 hvs0 hvs1 hvs3 hvs4 hvs5 hvs6); (try dsimp only); (try k_fold))
  repeat' (first | (k_unfold; (try dsimp only)) | ((fail_if_success (with_reducible show wpAny _ _ (call (Value.ref _) _) _ _ _)); first | (k_end; wrow_close) | walk1 | (dsimp only; walk1) | (leave1; walk_say "STEP leave1"; try dsimp only) | fail "no step"))
  (rename News _ _ _ _ => lN; replace lN := Mine.nd0 lN)
  ((with_reducible show wpAny _ _ (call (Value.ref 116) _) _ _ _); k_dflt (refine' draw_use ?k1 ?k2 ?k3 ?k4 ?k5 ?kK ?U ?c1 ?c2 ?c3 ?c4 ?c5 ?c6 ?c7 ?c8 ?c9 ?kd ?ku ?_); (case k1 => k_asm); (case k2 => k_asm); (case k3 => k_asm); (case k4 => k_asm); (case k5 => k_asm); (case kK => first | exact rfl | assumption); (case U => k_dflt k_updF); (case c1 => k_mem); (case c2 => k_ne); (case c3 => assumption); (case c4 => omega); (case c5 => omega); (case c6 => exact pool_len _); (case c7 => first | omega | exact (pool_sum _).1); (case c8 => first | omega | exact (pool_sum _).2); (case c9 => omega); (case kd => first | ktr_room | decide); (case ku => first | ktr_units | decide); (intro vt tvt i9 x9 ti9 tx9 n9 h9 tk9 F9 N9 hvt0 hvt1 hvt3 hvt4 hvt5 hvt6); (try dsimp only); (try k_fold))
  repeat' (first | (k_unfold; (try dsimp only)) | ((fail_if_success (with_reducible show wpAny _ _ (call (Value.ref _) _) _ _ _)); first | (k_end; wrow_close) | walk1 | (dsimp only; walk1) | (leave1; walk_say "STEP leave1"; try dsimp only) | fail "no step"))
  ((with_reducible show wpAny _ _ (call (Value.ref 102) _) _ _ _); k_dflt (refine' con_use ?k1 ?k2 ?k3 ?k4 ?k5 ?kK (binom_con _ _ _ _ _ _ _ _ _ _ _ ?c1 ?c2 ?c3 ?c4 ?c5) ?kd ?ku ?_); (case k1 => k_asm); (case k2 => k_asm); (case k3 => k_asm); (case k4 => k_asm); (case k5 => k_asm); (case kK => first | exact rfl | assumption); (case c1 => omega); (case c2 => omega); (case c3 => omega); (case c4 => omega); (case c5 => omega); (case kd => first | ktr_room | decide); (case ku => first | ktr_units | decide); (rintro r9 nx9 h9 tk9 F9 N9 ⟨a9, its9, n9, e9, e9', hl9, hi9⟩; subst e9; subst e9'); (try simp only [AllLt, and_true] at hl9); (try dsimp only); (try k_fold))
  repeat' (first | (k_unfold; (try dsimp only)) | ((fail_if_success (with_reducible show wpAny _ _ (call (Value.ref _) _) _ _ _)); first | (k_end; wrow_close) | walk1 | (dsimp only; walk1) | (leave1; walk_say "STEP leave1"; try dsimp only) | fail "no step"))
  have hwl := prodC_lt (n := vs) (k := vt) hvt0 (by omega) (by omega)
  ((with_reducible show wpAny _ _ (call (Value.ref 133) _) _ _ _); k_dflt (refine' con_use ?k1 ?k2 ?k3 ?k4 ?k5 ?kK (whole_dig _ _ _ _ _ _ _ _ _ _ _ ?c1 ?c2 ?c3 ?c4 ?c5) ?kd ?ku ?_); (case k1 => k_asm); (case k2 => k_asm); (case k3 => k_asm); (case k4 => k_asm); (case k5 => k_asm); (case kK => first | exact rfl | assumption); (case c1 => k_mem); (case c2 => (with_reducible assumption)); (case c3 => (first | with_reducible assumption | omega)); (case c4 => omega); (case c5 => omega); (case kd => first | ktr_room | decide); (case ku => first | ktr_units | decide); (rintro r9 nx9 h9 tk9 F9 N9 ⟨e9', t9, e9⟩; subst e9; subst e9'); (try simp only [AllLt, and_true] at hl9); (try dsimp only); (try k_fold))
  repeat' (first | (k_unfold; (try dsimp only)) | ((fail_if_success (with_reducible show wpAny _ _ (exec (Stmt.Assign _ (Expr.ListComp _ _ _ _) _) _) _ _ _)); first | (k_end; wrow_close) | walk1 | (dsimp only; walk1) | (leave1; walk_say "STEP leave1"; try dsimp only) | fail "no step"))
  (rename News _ _ _ _ => lN; replace lN := Mine.nd0 lN)
  k_dflt (refine PyProof.Rows.LCg.Assign_ListComp_U (F₀ := by k_asm) (by rfl) (by with_unfolding_all rfl) (by with_unfolding_all rfl) (by decide) (by rfl) (by decide) (by rfl) (by rfl) (by rfl) ?_)
  repeat' (first | (k_unfold; (try dsimp only)) | ((fail_if_success (with_reducible show wpAny _ _ (call (Value.ref _) _) _ _ _)); (fail_if_success (with_reducible show PyProof.Rows.LCg.CompSrc _ _ _ _ _ _ _ _ _ _ _ _ _ _)); first | (k_end; wrow_close) | walk1 | (dsimp only; walk1) | (leave1; walk_say "STEP leave1"; try dsimp only) | fail "no step"))
  ((with_reducible show wpAny _ _ (call (Value.ref 60) _) _ _ _); k_dflt (refine' con_use ?k1 ?k2 ?k3 ?k4 ?k5 ?kK (sieve_con _ _ _ _ _ _ _ ?c1 ?c2) ?kd ?ku ?_); (case k1 => k_asm); (case k2 => k_asm); (case k3 => k_asm); (case k4 => k_asm); (case k5 => k_asm); (case kK => first | exact rfl | assumption); (case c1 => omega); (case c2 => omega); (case kd => first | ktr_room | decide); (case ku => first | ktr_units | decide); (rintro r9 nx9 h9 tk9 F9 N9 ⟨a9, its9, n9, e9, e9', hl9, hi9⟩; subst e9; subst e9'); (try simp only [AllLt, and_true] at hl9); (try dsimp only); (try k_fold))
  repeat' (first | (k_unfold; (try dsimp only)) | ((fail_if_success (with_reducible show PyProof.Rows.LCg.CompSrc _ _ _ _ _ _ _ _ _ _ _ _ _ _)); first | (k_end; wrow_close) | walk1 | (dsimp only; walk1) | (leave1; walk_say "STEP leave1"; try dsimp only) | fail "no step"))
  have hsv := sieve_in (n := vs) hvs0 (by omega)
  have hsl := sieve_len (n := vs) hvs0 (by omega)
  have hil := hi9.length
  k_dflt (refine PyProof.Rows.LCg.CompSrc.ledger (by rfl) (by k_asm) (by k_asm) (by k_mem) ?_ ?_)
  · simp only [List.size_toArray, PySem.sizeLine_eq]; omega
  intro g9
  refine rest_pairs (fun p => cS vs vt p) (by k_mem) hi9 ?_ ?_
  · intro p t I oI C oC D ys m₂ h tk E' news hp hC hx F2 N2
    have hpb := hsv p hp
    simp only [List.cons_append, List.nil_append] at N2
    try k_fold
    repeat' (first | (k_unfold; (try dsimp only)) | ((fail_if_success (with_reducible show wpAny _ _ (call (Value.ref _) _) _ _ _)); first | (k_end; wrow_close) | walk1 | (dsimp only; walk1) | (leave1; walk_say "STEP leave1"; try dsimp only) | fail "no step"))
    ((with_reducible show wpAny _ _ (call (Value.ref 161) _) _ _ _); k_dflt (refine' con_use ?k1 ?k2 ?k3 ?k4 ?k5 ?kK (carries_con _ _ _ _ _ _ _ _ _ _ _ ?c1 ?c2 ?c3 ?c4 ?c5 ?c6) ?kd ?ku ?_); (case k1 => k_asm); (case k2 => k_asm); (case k3 => k_asm); (case k4 => k_asm); (case k5 => k_asm); (case kK => first | exact rfl | assumption); (case c1 => omega); (case c2 => omega); (case c3 => omega); (case c4 => omega); (case c5 => omega); (case c6 => omega); (case kd => first | ktr_room | decide); (case ku => first | ktr_units | decide); (rintro r9 nx9 h9 tk9 F9 N9 ⟨e9', t9, e9⟩; subst e9; subst e9'); (try simp only [AllLt, and_true] at hl9); (try dsimp only); (try k_fold))
    repeat' (first | (k_unfold; (try dsimp only)) | ((fail_if_success (with_reducible show Mine.TupEnd _ _ _ _ _ _ _ _ _ _ _ _ _ _ _)); first | (k_end; wrow_close) | walk1 | (dsimp only; walk1) | (leave1; walk_say "STEP leave1"; try dsimp only) | fail "no step"))
    exact TupEnd.intro (by assumption) (by assumption) (by k_mem) (by intro z hz; replace hz := Mine.mem_in hz; repeat (first | with_reducible exact hz | refine List.Mem.tail _ ?_)) (by refine ltN ?_; omega) (by refine ltN ?_; omega) (by refine ltN ?_; omega) rfl
  · intro ys news hs hpa
    replace hpa : PairsAre news ys (pairsC vs vt (sieveP vs.toNat)) := hpa
    have hyl := hpa.length
    have hpl0 : (pairsC vs vt (sieveP vs.toNat)).length = (sieveP vs.toNat).length := List.length_map ..
    have hw1 := whole_pos (n := vs) (k := vt) hvt0 (by omega) (by omega)
    have hok := pairsC_ok (n := vs) (k := vt) (ps := sieveP vs.toNat) hvt0 (by omega) (by omega) hsv
    have hpl : (pairsC vs vt (sieveP vs.toNat)).length ≤ 32 := by unfold pairsC; rw [List.length_map]; omega
    refine fin_A hs ?_
    intro D h tk F2 N2 off
    simp only [List.cons_append, List.nil_append] at N2
    simp only [PyProof.Rows.LCg.Off1, and_true] at off
    clear hs
    try k_fold
    repeat' (first | (k_unfold; (try dsimp only)) | ((fail_if_success (with_reducible show wpAny _ _ (eval (Expr.ListComp _ _ _ _) _) _ _ _)); first | (k_end; wrow_close) | walk1 | (dsimp only; walk1) | (leave1; walk_say "STEP leave1"; try dsimp only) | fail "no step"))
    k_dflt (refine PyProof.Rows.LCt.ListComp_T (F₀ := by k_asm) (by with_unfolding_all rfl) (by decide) (by rfl) (by decide) (by rfl) ?_)
    repeat' (first | (k_unfold; (try dsimp only)) | ((fail_if_success (with_reducible show PyProof.Rows.LCt.CompSrcT _ _ _ _ _ _ _ _ _ _ _ _ _ _ _)); first | (k_end; wrow_close) | walk1 | (dsimp only; walk1) | (leave1; walk_say "STEP leave1"; try dsimp only) | fail "no step"))
    k_dflt (refine PyProof.Rows.LCt.CompSrcT.ledger (by rfl) (by k_asm) (by k_asm) (by k_mem) ?_ ?_)
    · simp only [List.size_toArray, PySem.sizeLine_eq]; omega
    intro g9
    refine rest_false (by k_mem) (ps := pairsC vs vt (sieveP vs.toNat)) ?_ ?_ ?_
    · refine PairsAre.mono hpa ?_
      intro z hz
      replace hz := Mine.mem_in hz
      repeat (first | with_reducible exact hz | refine List.Mem.tail _ ?_)
    · intro T p q tp tq n I oI C oC D' m₂ h tk E' hpq hT hC hx F3 N3
      obtain ⟨p', hp', he⟩ := List.mem_map.mp hpq
      obtain ⟨rfl, rfl⟩ := Prod.mk.inj he
      have hst := stands_whole hvt0 (show vt ≤ vs by omega) (show vs ≤ 30 by omega) hp'
      have hpb := hsv _ hp'
      try k_fold
      repeat' (first | (k_unfold; (try dsimp only)) | ((fail_if_success (with_reducible show wpAny _ _ (call (Value.ref _) _) _ _ _)); first | (k_end; wrow_close) | walk1 | (dsimp only; walk1) | (leave1; walk_say "STEP leave1"; try dsimp only) | fail "no step"))
      ((with_reducible show wpAny _ _ (call (Value.ref 154) _) _ _ _); k_dflt (refine' con_use ?k1 ?k2 ?k3 ?k4 ?k5 ?kK (stands_con _ _ _ _ _ _ _ _ _ ?c1 ?c2 ?c3 ?c4) ?kd ?ku ?_); (case k1 => k_asm); (case k2 => k_asm); (case k3 => k_asm); (case k4 => k_asm); (case k5 => k_asm); (case kK => first | exact rfl | assumption); (case c1 => omega); (case c2 => omega); (case c3 => omega); (case c4 => omega); (case kd => first | ktr_room | decide); (case ku => first | ktr_units | decide); (rintro r9 nx9 h9 tk9 F9 N9 ⟨e9', t9, e9⟩; subst e9; subst e9'); (try simp only [AllLt, and_true] at hl9); (try dsimp only); (try k_fold))
      repeat' (first | (k_unfold; (try dsimp only)) | ((fail_if_success (with_reducible show Mine.KeepF _ _ _ _ _ _ _)); first | (k_end; wrow_close) | walk1 | (dsimp only; walk1) | (leave1; walk_say "STEP leave1"; try dsimp only) | fail "no step"))
      rw [Int.toNat_natCast]
      exact KeepF.intro (by assumption) (by assumption) (fun _ h => h) (by rw [hst]; simp)
    · intro D h tk F3 N3 off
      simp only [PyProof.Rows.LCg.Off1, and_true] at off
      try k_fold
      repeat' (first | (k_unfold; (try dsimp only)) | ((fail_if_success (with_reducible show @ite Prop _ _ _ _)); first | (k_end; wrow_close) | walk1 | (dsimp only; walk1) | (leave1; walk_say "STEP leave1"; try dsimp only) | fail "no step"))
      refine Mine.if_f (by decide) ?_
      (rename News _ _ _ _ => lN; replace lN := Mine.nd0 lN)
      (rename News _ _ _ _ => lN; replace lN := Mine.nd0 lN)
      (rename News _ _ _ _ => lN; replace lN := Mine.nd1 lN)
      repeat' (first | (k_unfold; (try dsimp only)) | ((fail_if_success (with_reducible show wpAny _ _ (call (Value.ref _) _) _ _ _)); first | (k_end; wrow_close) | walk1 | (dsimp only; walk1) | (leave1; walk_say "STEP leave1"; try dsimp only) | fail "no step"))
      ((with_reducible show wpAny _ _ (call (Value.ref 81) _) _ _ _); k_dflt (refine' con_use ?k1 ?k2 ?k3 ?k4 ?k5 ?kK (prod_con _ _ _ _ _ _ _ _ _ _ _ ?c1 ?c2 ?c3 ?c4 ?c5 ?c6 ?c7) ?kd ?ku ?_); (case k1 => k_asm); (case k2 => k_asm); (case k3 => k_asm); (case k4 => k_asm); (case k5 => k_asm); (case kK => first | exact rfl | assumption); (case c1 => omega); (case c2 => omega); (case c4 => k_mem); (case c6 => (with_reducible assumption)); (case c5 => (refine PairsAre.mono hpa ?_; intro z hz; replace hz := Mine.mem_in hz; repeat (first | with_reducible exact hz | refine List.Mem.tail _ ?_))); (case c3 => (first | with_reducible assumption | omega)); (case c7 => (with_reducible assumption)); (case kd => first | ktr_room | decide); (case ku => first | ktr_units | decide); (rintro r9 nx9 h9 tk9 F9 N9 ⟨a9, its9, n9, e9, e9', hl9, hi9⟩; subst e9; subst e9'); (try simp only [AllLt, and_true] at hl9); (try dsimp only); (try k_fold))
      repeat' (first | (k_unfold; (try dsimp only)) | ((fail_if_success (with_reducible show wpAny _ _ (call (Value.ref _) _) _ _ _)); first | (k_end; wrow_close) | walk1 | (dsimp only; walk1) | (leave1; walk_say "STEP leave1"; try dsimp only) | fail "no step"))
      ((with_reducible show wpAny _ _ (call (Value.ref 133) _) _ _ _); k_dflt (refine' con_use ?k1 ?k2 ?k3 ?k4 ?k5 ?kK (whole_dig _ _ _ _ _ _ _ _ _ _ _ ?c1 ?c2 ?c3 ?c4 ?c5) ?kd ?ku ?_); (case k1 => k_asm); (case k2 => k_asm); (case k3 => k_asm); (case k4 => k_asm); (case k5 => k_asm); (case kK => first | exact rfl | assumption); (case c1 => k_mem); (case c2 => (with_reducible assumption)); (case c3 => (first | with_reducible assumption | omega)); (case c4 => omega); (case c5 => omega); (case kd => first | ktr_room | decide); (case ku => first | ktr_units | decide); (rintro r9 nx9 h9 tk9 F9 N9 ⟨e9', t9, e9⟩; subst e9; subst e9'); (try simp only [AllLt, and_true] at hl9); (try dsimp only); (try k_fold))
      have N10 := take_news 7 N9
      simp only [List.take_succ_cons, List.take_zero] at N10
      clear N9
      (rename News _ _ _ _ => lN; replace lN := Mine.nd0 lN)
      (rename News _ _ _ _ => lN; replace lN := Mine.nd0 lN)
      repeat' (first | (k_unfold; (try dsimp only)) | ((fail_if_success (with_reducible show @ite Prop _ _ _ _)); first | (k_end; wrow_close) | walk1 | (dsimp only; walk1) | (leave1; walk_say "STEP leave1"; try dsimp only) | fail "no step"))
      refine Mine.if_f (ne_f rfl) ?_
      repeat' (first | (k_unfold; (try dsimp only)) | ((fail_if_success (with_reducible show wpAny _ _ (call (Value.ref _) _) _ _ _)); first | (k_end; wrow_close) | walk1 | (dsimp only; walk1) | (leave1; walk_say "STEP leave1"; try dsimp only) | fail "no step"))
      ((with_reducible show wpAny _ _ (call (Value.ref 116) _) _ _ _); k_dflt (refine' draw_use ?k1 ?k2 ?k3 ?k4 ?k5 ?kK ?U ?c1 ?c2 ?c3 ?c4 ?c5 ?c6 ?c7 ?c8 ?c9 ?kd ?ku ?_); (case k1 => k_asm); (case k2 => k_asm); (case k3 => k_asm); (case k4 => k_asm); (case k5 => k_asm); (case kK => first | exact rfl | assumption); (case U => k_dflt k_updF); (case c1 => k_mem); (case c2 => k_ne); (case c3 => assumption); (case c4 => omega); (case c5 => omega); (case c6 => exact pool_len _); (case c7 => first | omega | exact (pool_sum _).1); (case c8 => first | omega | exact (pool_sum _).2); (case c9 => omega); (case kd => first | ktr_room | decide); (case ku => first | ktr_units | decide); (intro vb tvb i9 x9 ti9 tx9 n9 h9 tk9 F9 N9 hvb0 hvb1 hvb3 hvb4 hvb5 hvb6); (try dsimp only); (try k_fold))
      repeat' (first | (k_unfold; (try dsimp only)) | ((fail_if_success (with_reducible show wpAny _ _ (call (Value.ref _) _) _ _ _)); first | (k_end; wrow_close) | walk1 | (dsimp only; walk1) | (leave1; walk_say "STEP leave1"; try dsimp only) | fail "no step"))
      ((with_reducible show wpAny _ _ (call (Value.ref 116) _) _ _ _); k_dflt (refine' draw_use ?k1 ?k2 ?k3 ?k4 ?k5 ?kK ?U ?c1 ?c2 ?c3 ?c4 ?c5 ?c6 ?c7 ?c8 ?c9 ?kd ?ku ?_); (case k1 => k_asm); (case k2 => k_asm); (case k3 => k_asm); (case k4 => k_asm); (case k5 => k_asm); (case kK => first | exact rfl | assumption); (case U => k_dflt k_updF); (case c1 => k_mem); (case c2 => k_ne); (case c3 => assumption); (case c4 => omega); (case c5 => omega); (case c6 => exact pool_len _); (case c7 => first | omega | exact (pool_sum _).1); (case c8 => first | omega | exact (pool_sum _).2); (case c9 => omega); (case kd => first | ktr_room | decide); (case ku => first | ktr_units | decide); (intro vo tvo i9 x9 ti9 tx9 n9 h9 tk9 F9 N9 hvo0 hvo1 hvo3 hvo4 hvo5 hvo6); (try dsimp only); (try k_fold))
      have hpw := pow_small hvb0 hvb1 hvo0 hvo1
      repeat' (first | (k_unfold; (try dsimp only)) | ((fail_if_success (with_reducible show wpAny _ _ (call (Value.ref _) _) _ _ _)); first | (k_end; wrow_close) | walk1 | (dsimp only; walk1) | (leave1; walk_say "STEP leave1"; try dsimp only) | fail "no step"))
      (rename News _ _ _ _ => lN; replace lN := Mine.nd0 lN)
      ((with_reducible show wpAny _ _ (call (Value.ref 74) _) _ _ _); k_dflt (refine' con_use ?k1 ?k2 ?k3 ?k4 ?k5 ?kK (power_con _ _ _ _ _ _ _ _ _ _ _ ?c1 ?c2 ?c3 ?c4 ?c5 ?c6 ?c7) ?kd ?ku ?_); (case k1 => k_asm); (case k2 => k_asm); (case k3 => k_asm); (case k4 => k_asm); (case k5 => k_asm); (case kK => first | exact rfl | assumption); (case c1 => omega); (case c2 => omega); (case c3 => (first | with_reducible assumption | omega)); (case c4 => omega); (case c5 => omega); (case c6 => omega); (case c7 => omega); (case kd => first | ktr_room | decide); (case ku => first | ktr_units | decide); (rintro r9 nx9 h9 tk9 F9 N9 ⟨a9, its9, n9, e9, e9', hl9, hi9⟩; subst e9; subst e9'); (try simp only [AllLt, and_true] at hl9); (try dsimp only); (try k_fold))
      obtain ⟨hpz0, hpz1, hpe⟩ := pow_row (m := vo) hvb0 hpw
      repeat' (first | (k_unfold; (try dsimp only)) | ((fail_if_success (with_reducible show wpAny _ _ (call (Value.ref _) _) _ _ _)); first | (k_end; wrow_close) | walk1 | (dsimp only; walk1) | (leave1; walk_say "STEP leave1"; try dsimp only) | fail "no step"))
      ((with_reducible show wpAny _ _ (call (Value.ref 128) _) _ _ _); k_dflt (refine' con_use ?k1 ?k2 ?k3 ?k4 ?k5 ?kK (row_con _ _ _ _ _ _ _ _ _ ?c1 ?c2 ?c3 ?c4) ?kd ?ku ?_); (case k1 => k_asm); (case k2 => k_asm); (case k3 => k_asm); (case k4 => k_asm); (case k5 => k_asm); (case kK => first | exact rfl | assumption); (case c1 => (first | with_reducible assumption | omega)); (case c2 => (first | with_reducible assumption | omega)); (case c3 => omega); (case c4 => omega); (case kd => first | ktr_room | decide); (case ku => first | ktr_units | decide); (rintro r9 nx9 h9 tk9 F9 N9 ⟨a9, its9, n9, e9, e9', hl9, hi9⟩; subst e9; subst e9'); (try simp only [AllLt, and_true] at hl9); (try dsimp only); (try k_fold))
      k_dflt (refine' eq_lists (news_list N9 ?ka) (news_list N9 ?kb) ?kc ?kd ?ke ?kf ?_)
      case ka => k_mem
      case kb => k_mem
      case kc => with_reducible assumption
      case kd => with_reducible assumption
      case ke => ke_room
      case kf => rw [hpe]
      k_steps

end LawP
end Mine
theorem PySem.Challenge.cw_nz0079_01_holds : PySem.Challenge.rw_nz0079_01.Holds := by
  exact Mine.law_holds
