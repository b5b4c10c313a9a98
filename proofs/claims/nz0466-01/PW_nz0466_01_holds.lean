import PyProof.Rows.All
import Wide.All
import OpenK.AllK
import Wide.FinOn
import Lean
import PySem.Challenge.RW_nz0466_01
open PySem PySem.W PySem.Calls PyProof.Rows
set_option Elab.async false
set_option maxRecDepth 100000
namespace Mine
set_option maxRecDepth 100000 in
set_option maxHeartbeats 0 in
open_top hd for PySem.Challenge.rw_nz0466_01
local macro_rules | `(tactic| walk_at $s:str) => `(tactic| k_extra $(Lean.Syntax.mkStrLit ("z " ++ s.getString)))
theorem gcd_step {i j : Int} (hi : 0 ≤ i) (hj : 0 < j) : Int.gcd j (i.fmod j) = Int.gcd i j := by
  obtain ⟨a, rfl⟩ := Int.eq_ofNat_of_zero_le hi
  obtain ⟨b, rfl⟩ := Int.eq_ofNat_of_zero_le (Int.le_of_lt hj)
  rw [← Int.ofNat_fmod]
  show Nat.gcd b (a % b) = Nat.gcd a b
  rw [Nat.gcd_comm a b, Nat.gcd_rec b a, Nat.gcd_comm]
theorem gcd_end {i j : Int} (hj : 0 ≤ j) (hi : 0 ≤ i) (h : ¬ 0 < j) : i = (Int.gcd i j : Int) := by
  have : j = 0 := by omega
  subst this
  rw [Int.gcd_zero_right]; omega
theorem fmod_lt' (i : Int) {j : Int} (hj : 0 < j) : (i.fmod j).toNat < j.toNat := by
  have := Int.fmod_lt_of_pos i hj
  have := Int.fmod_nonneg_of_pos i hj
  omega
theorem gcd_abs (n d : Int) : Int.gcd (if n < 0 then -n else n) d = Int.gcd n d := by
  split
  · exact Int.neg_gcd
  · rfl
theorem gcd_pos {n d : Int} (h : 0 < d) : (0 : Int) < Int.gcd n d := by
  have : Int.gcd n d ≠ 0 := fun e => by have := (Int.gcd_eq_zero_iff.mp e).2; omega
  omega



abbrev Led := List (Addr × Obj)

/-- what a call of the def at f does, over the ledger «news», with the arguments vs -/
def Fn (w : World) (mean : ExcName → Option Value) (mg mb : Str → Option Value) (f : Addr) (k : Nat) (news : Led) (vs : List Value) (Post : Led → Value → Prop) : Prop :=
  ∀ (dp un : Nat) (gd : Option (List Code)) (cn : Str) (cs : Scope) (a : Addr) (ccd : Value) (cl : List (Str × Addr)) (outer : List Env) (A₀ : Around) (base h₀ : Heap) (L : Addr) (m : Str → Option Value) (s : Shared)
    (Q E : Value → Shared → Prop),
    Below A₀ base outer h₀ → Fr h₀ L s.heap m → (Mine.hd.heap_39 w.params).In h₀ → News h₀ L s.heap news → Top Mine.hd.view_39 (looseW Mine.hd.view_39 []) mean mg mb h₀ → cs.kind = .function → dp + k < recursionLimit → un + 8 * k < cLine →
    (∀ r news' h' tk', Fr h₀ L h' m → News h₀ L h' news' → Post news' r → Q r { s with heap := h', toks := tk' }) →
    wpAny (model PySem.Challenge.rw_nz0466_01.row.prog w) (ktrTop dp un gd cn cs L a ccd cl outer) (call (.ref f) vs) Q E s
theorem Fn.use {w : World} {mean : ExcName → Option Value} {mg mb : Str → Option Value} {f : Addr} {k : Nat} {news : Led} {vs : List Value} {Post : Led → Value → Prop} 
    {dp un : Nat} {gd : Option (List Code)} {cn : Str} {cs : Scope} {a : Addr} {ccd : Value} {cl : List (Str × Addr)} {outer : List Env} {A₀ : Around} {base h₀ : Heap} {L : Addr} {m : Str → Option Value} {s : Shared} {Q E : Value → Shared → Prop}
    (C : Fn w mean mg mb f k news vs Post)
    (B : Below A₀ base outer h₀) (F : Fr h₀ L s.heap m) (X : (Mine.hd.heap_39 w.params).In h₀) (N : News h₀ L s.heap news) (T : Top Mine.hd.view_39 (looseW Mine.hd.view_39 []) mean mg mb h₀) (hk : cs.kind = .function) (hd : dp + k < recursionLimit) (hu : un + 8 * k < cLine)
    (ret : ∀ r news' h' tk', Fr h₀ L h' m → News h₀ L h' news' → Post news' r → Q r { s with heap := h', toks := tk' }) :
    wpAny (model PySem.Challenge.rw_nz0466_01.row.prog w) (ktrTop dp un gd cn cs L a ccd cl outer) (call (.ref f) vs) Q E s :=
  C _ _ _ _ _ _ _ _ _ _ _ _ _ _ _ _ _ B F X N T hk hd hu ret

/-- a goal at which the walk is to stop -/
def Stop (P : Prop) : Prop := P
theorem Stop.mk {P : Prop} (h : Stop P) : P := h
section
variable {prog : Program} {w : World} {A : Around} {E : Value → Shared → Prop} {env : Env} {test : Expr} {body : List Stmt} {Q : Flow → Shared → Prop} {I : Nat → Shared → Prop} {pos : Pos}
/-- the end of a while loop's turn -/
def WEnd (I : Nat → Shared → Prop) (Q : Flow → Shared → Prop) (n : Nat) (f : Flow) (s : Shared) : Prop :=
  match f with
  | .next => ∃ k, k < n ∧ I k s
  | .cont => ∃ k, k < n ∧ I k s
  | .brk => Q .next s
  | .ret v => Q (.ret v) s
theorem WhlIf.split {b : Bool} {T F : Prop} (t : b = true → T) (f : b = false → F) : WhlIf b T F := by
  cases b
  · exact WhlIf.no rfl (f rfl)
  · exact WhlIf.yes rfl (t rfl)
theorem while_ind (hE : PassesOwn (model prog w) A env E)
    (turn : ∀ n s, I n s → wpAny (model prog w) A (isTrue test env (eval test env)) (fun b s₂ => WhlIf b (wpAny (model prog w) A (execs body env) (WEnd I Q n) E s₂) (wpAny (model prog w) A (execs [] env) Q E s₂)) E s)
    {s : Shared} (n : Nat) (h : I n s) : wpAny (model prog w) A (exec (.While test body [] pos) env) Q E s := by
  have all : ∀ m n, n < m → ∀ s, I n s → WhlRest prog w A E env test body [] Q 1 s := by
    intro m
    induction m with
    | zero => intro n h; exact absurd h (Nat.not_lt_zero _)
    | succ m ih =>
      intro n hn s hI
      refine whl_turn (k := 0) hE (wpAny_mono (turn n s hI) (fun b s₂ h₂ => ?_) fun _ _ e => e)
      cases b with
      | false => exact WhlIf.no rfl (by unfold WhlIf at h₂; rw [if_neg Bool.false_ne_true] at h₂; exact h₂)
      | true =>
        refine WhlIf.yes rfl ?_
        unfold WhlIf at h₂
        rw [if_pos rfl] at h₂
        refine wpAny_mono h₂ (fun f s₃ h₃ => ?_) fun _ _ e => e
        cases f with
        | next => obtain ⟨k, hk, hi⟩ := h₃; exact ih k (Nat.lt_of_lt_of_le hk (Nat.le_of_lt_succ hn)) s₃ hi
        | cont => obtain ⟨k, hk, hi⟩ := h₃; exact ih k (Nat.lt_of_lt_of_le hk (Nat.le_of_lt_succ hn)) s₃ hi
        | brk => exact h₃
        | ret v => exact h₃
  exact whl_start 1 (all _ n (Nat.lt_succ_self _) s h)
end
theorem frTo {h₀ h : Heap} {L : Addr} {m m' : Str → Option Value} (F : Fr h₀ L h m) (e : ∀ y, m y = m' y) : Fr h₀ L h m' := by
  rw [← funext e]; exact F

noncomputable def putAll (m : Str → Option Value) : List (Str × Value) → Str → Option Value
  | [], z => m z
  | (x, v) :: r, z => if z = x then some v else putAll m r z
theorem putAll_eq {m : Str → Option Value} : ∀ {l : List (Str × Value)}, (∀ p ∈ l, m p.1 = some p.2) → ∀ y, m y = putAll m l y
  | [], _, _ => rfl
  | (x, v) :: r, h, y => by
    unfold putAll
    by_cases e : y = x
    · rw [if_pos e, e]; exact h (x, v) (.head _)
    · rw [if_neg e]; exact putAll_eq (fun p hp => h p (.tail _ hp)) y
theorem frPut {h₀ h : Heap} {L : Addr} {m : Str → Option Value} {x : Str} {v : Value} (e : m x = some v) (F : Fr h₀ L h m) : Fr h₀ L h (putAll m [(x, v)]) :=
  frTo F (putAll_eq fun p hp => by rw [List.mem_singleton.mp hp]; exact e)
theorem frPut2 {h₀ h : Heap} {L : Addr} {m : Str → Option Value} {x y : Str} {v u : Value} (F : Fr h₀ L h m) (e : m x = some v) (f : m y = some u) : Fr h₀ L h (putAll m [(x, v), (y, u)]) :=
  frTo F (putAll_eq fun p hp => by
    rcases List.mem_cons.mp hp with rfl | hp
    · exact e
    rw [List.mem_singleton.mp hp]; exact f)
theorem frPut3 {h₀ h : Heap} {L : Addr} {m : Str → Option Value} {x y z : Str} {v u r : Value} (F : Fr h₀ L h m) (e : m x = some v) (f : m y = some u) (k : m z = some r) : Fr h₀ L h (putAll m [(x, v), (y, u), (z, r)]) :=
  frTo F (putAll_eq fun p hp => by
    rcases List.mem_cons.mp hp with rfl | hp
    · exact e
    rcases List.mem_cons.mp hp with rfl | hp
    · exact f
    rw [List.mem_singleton.mp hp]; exact k)
theorem frPut4 {h₀ h : Heap} {L : Addr} {m : Str → Option Value} {x y z x' : Str} {v u r v' : Value} (F : Fr h₀ L h m) (e : m x = some v) (f : m y = some u) (k : m z = some r) (k' : m x' = some v') : Fr h₀ L h (putAll m [(x, v), (y, u), (z, r), (x', v')]) :=
  frTo F (putAll_eq fun p hp => by
    rcases List.mem_cons.mp hp with rfl | hp
    · exact e
    rcases List.mem_cons.mp hp with rfl | hp
    · exact f
    rcases List.mem_cons.mp hp with rfl | hp
    · exact k
    rw [List.mem_singleton.mp hp]; exact k')



abbrev V := Option (Int × Int)
noncomputable def red (n d : Int) : Int × Int := (n.fdiv (Int.gcd n d), d.fdiv (Int.gcd n d))
noncomputable def makeF (n d : Int) : V := if d = 0 then (if n = 0 then some (0, 0) else if 0 < n then some (1, 0) else some (-1, 0)) else if d < 0 then some (red (0 - n) (0 - d)) else some (red n d)
noncomputable def isNa : V → Bool
  | none => true
  | some (n, d) => decide (n = 0 ∧ d = 0)
noncomputable def isFin : V → Bool
  | none => false
  | some (_, d) => decide (0 < d)
noncomputable def markedF : V → V → V
  | some _, some _ => some (0, 0)
  | _, _ => none
noncomputable def negF : V → V
  | none => none
  | some (n, d) => some (0 - n, d)
noncomputable def addF (x y : V) : V := match x, y with
  | some (a, b), some (c, e) =>
    if isNa x || isNa y then some (0, 0) else if b = 0 ∧ e = 0 then (if a = c then x else some (0, 0)) else if b = 0 then x else if e = 0 then y else makeF (a * e + c * b) (b * e)
  | _, _ => none
noncomputable def mulF (x y : V) : V := match x, y with
  | some (a, b), some (c, e) => if isNa x || isNa y then some (0, 0) else makeF (a * c) (b * e)
  | _, _ => none
noncomputable def divF (x y : V) : V := match x, y with
  | some (a, b), some (c, e) =>
    if isNa x || isNa y then some (0, 0) else if b = 0 ∧ e = 0 then some (0, 0) else if b = 0 then (if c < 0 then negF x else x) else makeF (a * e) (b * c)
  | _, _ => none
noncomputable def floorF : V → V
  | none => none
  | some (n, d) => if 0 < d then some (n.fdiv d, 1) else some (n, d)
/-- the int has at most k bits -/
def Bd (k : Nat) (n : Int) : Prop := n.natAbs < 2 ^ k
def VB (k : Nat) (x : V) : Prop := ∀ n d, x = some (n, d) → Bd k n ∧ Bd k d
theorem Bd.le {k k' : Nat} {n : Int} (h : Bd k n) (hk : k ≤ k') : Bd k' n := Nat.lt_of_lt_of_le h (Nat.pow_le_pow_right (by decide) hk)
theorem Bd.mul {j k : Nat} {a b : Int} (ha : Bd j a) (hb : Bd k b) : Bd (j + k) (a * b) := by
  unfold Bd at *
  rw [Int.natAbs_mul, Nat.pow_add]
  exact Nat.mul_lt_mul'' ha hb
theorem two_pow_max {j k : Nat} : 2 ^ j + 2 ^ k ≤ 2 ^ (max j k + 1) := by
  have h1 : 2 ^ j ≤ 2 ^ max j k := Nat.pow_le_pow_right (by decide) (Nat.le_max_left _ _)
  have h2 : 2 ^ k ≤ 2 ^ max j k := Nat.pow_le_pow_right (by decide) (Nat.le_max_right _ _)
  rw [Nat.pow_succ]; omega
theorem Bd.add {j k : Nat} {a b : Int} (ha : Bd j a) (hb : Bd k b) : Bd (max j k + 1) (a + b) := by
  unfold Bd at *
  have := @two_pow_max j k
  omega
theorem Bd.sub {j k : Nat} {a b : Int} (ha : Bd j a) (hb : Bd k b) : Bd (max j k + 1) (a - b) := by
  unfold Bd at *
  have := @two_pow_max j k
  omega
theorem Bd.neg {k : Nat} {a : Int} (ha : Bd k a) : Bd k (-a) := by unfold Bd at *; omega
theorem Bd.neg' {k : Nat} {a : Int} (ha : Bd k a) : Bd k (0 - a) := by unfold Bd at *; omega
theorem Bd.abs {k : Nat} {a : Int} (ha : Bd k a) : Bd k (if a < 0 then -a else a) := by unfold Bd at *; split <;> omega
theorem Bd.lt {k : Nat} {a b : Int} (ha : Bd k a) (h0 : 0 ≤ b) (h : b ≤ a) : Bd k b := by unfold Bd at *; omega
theorem Bd.fdiv {k : Nat} {a b : Int} (ha : Bd k a) : Bd (k + 1) (a.fdiv b) := by
  unfold Bd at *
  have h : (a.fdiv b).natAbs ≤ a.natAbs + 1 := by
    rw [Int.fdiv_eq_ediv]
    have h1 := Int.natAbs_ediv_le_natAbs a b
    split <;> omega
  have := Nat.two_pow_pos k
  rw [Nat.pow_succ]; omega
theorem Bd.gcd {k : Nat} {a b : Int} (hb : Bd k b) (h : 0 < b) : Bd k (Int.gcd a b : Int) := by
  have h1 := Int.gcd_le_natAbs_right a (by omega : b ≠ 0)
  unfold Bd at *
  omega
theorem noPy {k : Nat} {x y : Int} (h : Bd k y) (hk : k ≤ 9000) : Builtin.divisionGoesByPylong x y = false := by
  refine PyProof.noPylong_of_log2 ?_
  by_cases h0 : y.natAbs = 0
  · rw [h0]; decide +kernel
  · have := (Nat.log2_lt h0).mpr h
    omega
theorem bitsLe {k : Nat} {a : Int} (h : Bd k a) : Builtin.Int.intBits a ≤ k := by
  unfold Builtin.Int.intBits
  split
  · exact Nat.zero_le _
  · rename_i hz
    have h0 : a.natAbs ≠ 0 := by simpa using hz
    exact (Nat.log2_lt h0).mpr h
theorem mulOk {j k : Nat} {a b : Int} (ha : Bd j a) (hb : Bd k b) (h : j ≤ 100000) (h' : k ≤ 100000) : IntMulOk a b :=
  IntMulOk.of_bits (Nat.le_trans (bitsLe ha) (Nat.le_trans h (by decide))) (Nat.le_trans (bitsLe hb) (Nat.le_trans h' (by decide)))
theorem VB.none {k : Nat} : VB k .none := fun _ _ h => by cases h
theorem VB.some {k : Nat} {n d : Int} (h1 : Bd k n) (h2 : Bd k d) : VB k (.some (n, d)) := fun _ _ h => by cases h; exact ⟨h1, h2⟩
theorem VB.le {k k' : Nat} {x : V} (h : VB k x) (hk : k ≤ k') : VB k' x := fun n d e => ⟨(h n d e).1.le hk, (h n d e).2.le hk⟩
theorem Bd.small {k : Nat} {n : Int} (h : n.natAbs < 2) (hk : 1 ≤ k) : Bd k n := Nat.lt_of_lt_of_le h (Nat.pow_le_pow_right (n := 2) (by decide) hk)
theorem VB.make {j k : Nat} {n d : Int} (h1 : Bd j n) (h2 : Bd k d) : VB (j + k + 1) (makeF n d) := by
  unfold makeF red
  split
  · split
    · exact .some (.small (by decide) (by omega)) (.small (by decide) (by omega))
    · split <;> exact .some (.small (by decide) (by omega)) (.small (by decide) (by omega))
  · split
    · exact .some (h1.neg'.fdiv.le (by omega)) (h2.neg'.fdiv.le (by omega))
    · exact .some (h1.fdiv.le (by omega)) (h2.fdiv.le (by omega))
theorem VB.neg {k : Nat} {x : V} (h : VB k x) : VB k (negF x) := by
  cases x with
  | none => exact .none
  | some p => obtain ⟨n, d⟩ := p; exact .some (h n d rfl).1.neg' (h n d rfl).2
theorem VB.floor {k : Nat} {x : V} (h : VB k x) : VB (k + 1) (floorF x) := by
  cases x with
  | none => exact .none
  | some p =>
    obtain ⟨n, d⟩ := p
    unfold floorF
    dsimp only
    split
    · exact .some (h n d rfl).1.fdiv (.small (by decide) (by omega))
    · exact h.le (by omega)
theorem VB.mul {j k : Nat} {x y : V} (hx : VB j x) (hy : VB k y) : VB (j + k + (j + k) + 1) (mulF x y) := by
  unfold mulF
  split
  · split
    · exact .some (.small (by decide) (by omega)) (.small (by decide) (by omega))
    · exact .make ((hx _ _ rfl).1.mul (hy _ _ rfl).1) ((hx _ _ rfl).2.mul (hy _ _ rfl).2)
  · exact .none
theorem VB.div {j k : Nat} {x y : V} (hx : VB j x) (hy : VB k y) : VB (j + k + (j + k) + 1) (divF x y) := by
  unfold divF
  split
  · split
    · exact .some (.small (by decide) (by omega)) (.small (by decide) (by omega))
    split
    · exact .some (.small (by decide) (by omega)) (.small (by decide) (by omega))
    split
    · split
      · exact hx.neg.le (by omega)
      · exact hx.le (by omega)
    · exact .make ((hx _ _ rfl).1.mul (hy _ _ rfl).2) ((hx _ _ rfl).2.mul (hy _ _ rfl).1)
  · exact .none
noncomputable def intDivF (x y : V) : V :=
  if isFin (divF x y) then (match x, y with
    | some (a, _), some (c, e) => if e = 0 then (if a * c < 0 then some (-1, 1) else some (0, 1)) else floorF (divF x y)
    | _, _ => divF x y) else divF x y
noncomputable def remF (x y : V) : V := match x, y with
  | some (a, b), some (c, e) => if isNa x || isNa y then some (0, 0) else if c = 0 ∨ b = 0 then some (0, 0) else if e = 0 then (if a * c < 0 then y else x) else addF x (negF (mulF (floorF (divF x y)) y))
  | _, _ => none
noncomputable def nearF (n d : Int) : Int := if d < 2 * (n - n.fdiv d * d) ∨ (2 * (n - n.fdiv d * d) = d ∧ (n.fdiv d).fmod 2 = 1) then n.fdiv d + 1 else n.fdiv d
theorem Bd.near {k : Nat} {n d : Int} (h : Bd k n) : Bd (k + 2) (nearF n d) := by
  have h1 : Bd (k + 1) (n.fdiv d) := h.fdiv
  unfold nearF
  split
  · exact (h1.add (.small (k := 1) (by decide) (by decide))).le (by omega)
  · exact h1.le (by omega)
theorem Bd.pow10 {p : Int} (h : p ≤ 60) : Bd 240 ((10 : Int) ^ p.toNat) := by
  unfold Bd
  rw [Int.natAbs_pow]
  have h1 : (Int.natAbs 10) ^ p.toNat ≤ 10 ^ 60 := Nat.pow_le_pow_right (by decide) (by omega)
  exact Nat.lt_of_le_of_lt h1 (by decide +kernel)
theorem pow10_pos {k : Nat} : (0 : Int) < (10 : Int) ^ k := Int.pow_pos (by decide)
noncomputable def roundF (n d p : Int) : V :=
  if 0 ≤ p then makeF (nearF (n * 10 ^ p.toNat) d) (10 ^ p.toNat) else some (nearF n (d * 10 ^ (0 - p).toNat) * 10 ^ (0 - p).toNat, 1)
noncomputable def rheF (x : V) (p : Int) : V := match x with
  | none => none
  | some (n, d) => if 0 < d ∧ p ≤ 308 then roundF n d p else some (n, d)



/-- the pair (n, d) stands at a: in the ledger, or it is one of the two of the top -/
def Tp (news : Led) (a : Addr) (n d : Int) : Prop :=
  (a = 15 ∧ n = 0 ∧ d = 0) ∨ (a = 16 ∧ n = 0 ∧ d = 1) ∨ ∃ t u, (a, ({ cls := .type "tuple", data := .seq #[.int n t, .int d u] } : Obj)) ∈ news
inductive VIn (news : Led) : Value → V → Prop
  | none : VIn news .none none
  | some {a : Addr} {n d : Int} : Tp news a n d → VIn news (.ref a) (some (n, d))
theorem Tp.mono {news news' : Led} {a : Addr} {n d : Int} (hs : ∀ p ∈ news, p ∈ news') (h : Tp news a n d) : Tp news' a n d := by
  rcases h with h | h | ⟨t, u, h⟩
  · exact .inl h
  · exact .inr (.inl h)
  · exact .inr (.inr ⟨t, u, hs _ h⟩)
theorem VIn.mono {news news' : Led} {v : Value} {d : V} (hs : ∀ p ∈ news, p ∈ news') (h : VIn news v d) : VIn news' v d := by
  cases h with
  | none => exact .none
  | some h => exact .some (h.mono hs)
theorem VIn.handed {news : Led} {v : Value} {d : V} (h : VIn news v d) : handedIn v = true := by cases h <;> rfl
theorem Tp.isTup {P : Params} {news : Led} {a : Addr} {n d : Int} {h₀ h : Heap} {L : Addr} {m : Str → Option Value} (H : Tp news a n d) (X : (Mine.hd.heap_39 P).In h₀) (F : Fr h₀ L h m) (N : News h₀ L h news) :
    ∃ t u, IsTup h a #[.int n t, .int d u] := by
  rcases H with ⟨rfl, rfl, rfl⟩ | ⟨rfl, rfl, rfl⟩ | ⟨t, u, hm⟩
  · exact ⟨_, _, tupK (n := 0) (dd := Option.none) (sl := #[]) (l := [.int 0 189, .int 0 190]) (X.keeps F.keep) (by kernel_rfl)⟩
  · exact ⟨_, _, tupK (n := 0) (dd := Option.none) (sl := #[]) (l := [.int 0 192, .int 1 193]) (X.keeps F.keep) (by kernel_rfl)⟩
  · exact ⟨t, u, _, N.get hm, rfl, 0, rfl⟩
section
variable {prog : Program} {P : Params} {w : World} {A : Around} {E : Value → Shared → Prop} {s : Shared} {value slice : Expr} {news : Led} {a : Addr} {n d : Int} {h₀ : Heap} {L : Addr} {m : Str → Option Value} {u : Tok} {Q : Value → Shared → Prop}
theorem tp_item {k e : Int} (H : Tp news a n d) (X : (Mine.hd.heap_39 P).In h₀) (F : Fr h₀ L s.heap m) (N : News h₀ L s.heap news) (hk : (k = 0 ∧ e = n) ∨ (k = 1 ∧ e = d)) (h : ∀ t tk, Q (.int e t) { s with toks := tk })
    (hs : subscripted slice false (.ref a) (.int k u) = operate [.ref a, .int k u] (getItem (.ref a) (.int k u))) :
    wpAny (model prog w) A (subscriptTail value slice (.ref a) (.int k u)) Q E s := by
  obtain ⟨t, u', T⟩ := H.isTup X F N
  rcases hk with ⟨rfl, rfl⟩ | ⟨rfl, rfl⟩
  · exact item_tupleT (l := [.int e t, .int d u']) T (by decide) (by decide) (j := 0) rfl rfl (h t s.toks) hs
  · exact item_tupleT (l := [.int n t, .int e u']) T (by decide) (by decide) (j := 1) rfl rfl (h u' s.toks) hs
end
def Tups (tl : Led) : Prop := ∀ p ∈ tl, p.2.cls = .type "tuple"
theorem sub_cons {l l' : Led} {q : Addr × Obj} (h : ∀ p ∈ l, p ∈ l') : ∀ p ∈ l, p ∈ q :: l' := fun p hp => .tail _ (h p hp)
theorem sub_app {l l' t : Led} (h : ∀ p ∈ l, p ∈ l') : ∀ p ∈ l, p ∈ t ++ l' := fun p hp => List.mem_append.mpr (.inr (h p hp))
/-- what a def that hands back a pair or None leaves -/
def PV (news : Led) (d : V) (news' : Led) (r : Value) : Prop := ∃ tl, tl ++ news = news' ∧ Tups tl ∧ VIn news' r d
/-- what a def that hands back something flat leaves -/
def PB (news : Led) (R : Value → Prop) (news' : Led) (r : Value) : Prop := news = news' ∧ R r
theorem endV {h₀ h' : Heap} {L : Addr} {m : Str → Option Value} {news full : Led} {d d' : V} {s : Shared} {Q : Value → Shared → Prop} {r : Value} {tk' : Nat}
    (hret : ∀ r news' h' tk', Fr h₀ L h' m → News h₀ L h' news' → PV news d news' r → Q r { s with heap := h', toks := tk' })
    (F : Fr h₀ L h' m) (N : News h₀ L h' full) (S : ∀ p ∈ news, p ∈ full) (v : VIn full r d') (e : d' = d) : Q r { s with heap := h', toks := tk' } := by
  subst e
  have nil : ∀ d', VIn news r d' → PV news d' news r := fun _ h => ⟨[], rfl, fun _ hp => (nomatch hp), h⟩
  have N0 : News h₀ L h' news := fun p hp => N p (S p hp)
  cases v with
  | none => exact hret _ news _ _ F N0 (nil _ .none)
  | some H =>
    rcases H with h | h | ⟨t, u, hm⟩
    · exact hret _ news _ _ F N0 (nil _ (.some (.inl h)))
    · exact hret _ news _ _ F N0 (nil _ (.some (.inr (.inl h))))
    · refine hret _ ([(_, _)] ++ news) _ _ F (fun p hp => ?_) ⟨[(_, _)], rfl, fun p hp => ?_, .some (.inr (.inr ⟨t, u, List.mem_append.mpr (.inl (.head _))⟩))⟩
      · rcases List.mem_append.mp hp with hp | hp
        · rw [List.mem_singleton.mp hp]; exact N _ hm
        · exact N0 p hp
      · rw [List.mem_singleton.mp hp]
theorem endB {h₀ h' : Heap} {L : Addr} {m : Str → Option Value} {news full : Led} {R : Value → Prop} {s : Shared} {Q : Value → Shared → Prop} {r : Value} {tk' : Nat}
    (hret : ∀ r news' h' tk', Fr h₀ L h' m → News h₀ L h' news' → PB news R news' r → Q r { s with heap := h', toks := tk' })
    (F : Fr h₀ L h' m) (N : News h₀ L h' full) (S : ∀ p ∈ news, p ∈ full) (v : R r) : Q r { s with heap := h', toks := tk' } :=
  hret _ news _ _ F (fun p hp => N p (S p hp)) ⟨rfl, v⟩
/-- what a def that hands back an int leaves -/
def PI (news : Led) (R : Int → Prop) (news' : Led) (r : Value) : Prop := news = news' ∧ ∃ c t, r = .int c t ∧ R c
theorem endI {h₀ h' : Heap} {L : Addr} {m : Str → Option Value} {news full : Led} {R : Int → Prop} {s : Shared} {Q : Value → Shared → Prop} {c : Int} {t : Tok} {tk' : Nat}
    (hret : ∀ r news' h' tk', Fr h₀ L h' m → News h₀ L h' news' → PI news R news' r → Q r { s with heap := h', toks := tk' })
    (F : Fr h₀ L h' m) (N : News h₀ L h' full) (S : ∀ p ∈ news, p ∈ full) (v : R c) : Q (.int c t) { s with heap := h', toks := tk' } :=
  hret _ news _ _ F (fun p hp => N p (S p hp)) ⟨rfl, c, t, rfl, v⟩
section
variable {prog : Program} {w : World} {A : Around} {E : Value → Shared → Prop} {s : Shared} {a b : Int} {t u : Tok} {Q : Value → Shared → Prop}
theorem const_tk {M : Model} {env : Env} {i : Int} {k : Nat} {pos : Pos} (h : ∀ t tk, Q (.int i t) { s with toks := tk }) : wpAny M A (eval (.Constant (.int i) k pos) env) Q E s := wpAny_Constant_int (h _ _)
theorem add_tk (h : ∀ t tk, Q (.int (a + b) t) { s with toks := tk }) : wpAny (model prog w) A (binaryOp .Add (.int a t) (.int b u)) Q E s := PyProof.Rows.add_int (h _ _)
theorem sub_tk (h : ∀ t tk, Q (.int (a - b) t) { s with toks := tk }) : wpAny (model prog w) A (binaryOp .Sub (.int a t) (.int b u)) Q E s := PyProof.Rows.sub_int (h _ _)
theorem mul_tk (h : ∀ t tk, Q (.int (a * b) t) { s with toks := tk }) (hm : IntMulOk a b) : wpAny (model prog w) A (binaryOp .Mult (.int a t) (.int b u)) Q E s := PyProof.Rows.mul_int (h _ _) hm
theorem mod_tk (hb : b ≠ 0) (h : ∀ t tk, Q (.int (a.fmod b) t) { s with toks := tk }) : wpAny (model prog w) A (binaryOp .Mod (.int a t) (.int b u)) Q E s := PyProof.Rows.mod_int' hb (h _ _)
theorem fdiv_tk (hb : b ≠ 0) (h : ∀ t tk, Q (.int (a.fdiv b) t) { s with toks := tk }) (hp : Builtin.divisionGoesByPylong a b = false) : wpAny (model prog w) A (binaryOp .FloorDiv (.int a t) (.int b u)) Q E s := PyProof.Rows.floordiv_int hb (h _ _) (.inl hp)
end



theorem reg1 : True := by
  k_with "my_tp" => first | (with_reducible assumption) | (with_reducible refine Tp.mono ?zzs9 (by with_reducible assumption); (case zzs9 => walk_at "my_sub")) | exact Or.inl ⟨rfl, rfl, rfl⟩ | exact Or.inr (Or.inl ⟨rfl, rfl, rfl⟩) | exact Or.inr (Or.inr ⟨_, _, by kcj_m⟩)
  k_with "my_vin" => first | (with_reducible assumption) | (with_reducible exact VIn.none) | ((with_reducible apply VIn.some) <;> walk_at "my_tp") | (with_reducible refine VIn.mono ?zzs9 (by with_reducible assumption); (case zzs9 => walk_at "my_sub"))
  k_with "my_bs" => first | (with_reducible assumption) | ((with_reducible apply Bd.mul) <;> walk_at "my_bs") | ((with_reducible apply Bd.add) <;> walk_at "my_bs") | ((with_reducible apply Bd.neg') <;> walk_at "my_bs") | ((with_reducible apply Bd.sub) <;> walk_at "my_bs") | ((with_reducible apply Bd.neg) <;> walk_at "my_bs") | ((with_reducible apply Bd.abs) <;> walk_at "my_bs") | ((with_reducible apply Bd.fdiv) <;> walk_at "my_bs") | ((with_reducible apply Bd.near) <;> walk_at "my_bs") | ((with_reducible apply Bd.pow10); omega) | exact (show Bd 40 _ from by unfold Bd; decide)
  k_with "my_vs" => first | (with_reducible assumption) | (with_reducible exact VB.none) | ((with_reducible apply VB.neg) <;> walk_at "my_vs") | ((with_reducible apply VB.mul) <;> walk_at "my_vs") | ((with_reducible apply VB.div) <;> walk_at "my_vs") | ((with_reducible apply VB.floor) <;> walk_at "my_vs")
  k_with "z exec While Compare cons nil" => (refine Stop.mk ?_)
  k_with "z WhlIf" => (refine WhlIf.split (fun hc => ?_) (fun hc => ?_) <;> (simp only [decide_eq_true_eq, decide_eq_false_iff_not] at hc))
  k_with "my_pe" => first | passes_own | with_unfolding_all passes_own
  k_with "my_sub" => (repeat' (first | (with_reducible exact fun _ h => h) | (with_reducible refine sub_cons ?_) | (with_reducible refine sub_app ?_)))
  k_with "z subscriptTail Name Constant ref int" => (k_here; (with_reducible show wpAny _ _ (subscriptTail _ _ (Value.ref _) (Value.int _ _)) _ _ _); k_dflt (refine' tp_item ?zzH ?zzX ?zzF ?zzN ?zzhk ?_ ?zzhs; (case zzF => k_asm); (case zzN => k_asm); (case zzX => k_asm); (case zzH => walk_at "my_tp"); (case zzhk => first | exact Or.inl ⟨rfl, rfl⟩ | exact Or.inr ⟨rfl, rfl⟩); (case zzhs => with_unfolding_all rfl); k_whole; intro t9 tk9); (try dsimp only))
  k_with "my_steps" => (repeat' (first | (k_unfold; (try dsimp only)) | walk1 | (dsimp only; first | (k_unfold; (try dsimp only)) | walk1)))
  k_with "my_bool" => (refine congrArg Value.bool (Bool.eq_iff_iff.mpr ?_); (try simp only [isNa, isFin, beq_iff_eq, bne_iff_ne, decide_eq_true_eq, decide_eq_false_iff_not, Bool.and_eq_true, Bool.or_eq_true, Bool.not_eq_true', Bool.false_eq_true, true_iff, false_iff, iff_true, iff_false]); all_goals omega)
  k_with "my_room" => ((try dsimp only [ktrTop, Around.deeper]); omega)
  k_with "my_int" => omega
  k_with "my_bd" => exact Bd.le (by walk_at "my_bs") (by decide)
  k_with "my_nz" => first | decide | omega | (apply Int.mul_ne_zero <;> omega)
  k_with "z binaryOp FloorDiv int int" => (k_here; (with_reducible show wpAny _ _ (binaryOp _ (Value.int _ _) (Value.int _ _)) _ _ _); k_dflt (refine' fdiv_tk ?zzhb ?_ ?zzhp; (case zzhb => walk_at "my_nz"); (case zzhp => exact noPy (by walk_at "my_bs") (by decide)); k_whole; intro t9 tk9); (try dsimp only))
  k_with "z binaryOp Mod int int" => (k_here; (with_reducible show wpAny _ _ (binaryOp _ (Value.int _ _) (Value.int _ _)) _ _ _); k_dflt (refine' mod_tk ?zzhb ?_; (case zzhb => walk_at "my_nz"); k_whole; intro t9 tk9); (try dsimp only))
  k_with "z binaryOp Mult int int" => (k_here; (with_reducible show wpAny _ _ (binaryOp _ (Value.int _ _) (Value.int _ _)) _ _ _); k_dflt (refine' mul_tk ?_ ?zzhm; (case zzhm => exact mulOk (by walk_at "my_bs") (by walk_at "my_bs") (by decide) (by decide)); k_whole; intro t9 tk9); (try dsimp only))
  k_with "z eval Call Name cons nil" => (k_here; (with_reducible show wpAny _ _ (eval (Expr.Call (Expr.Name _ _) _ [] _) _) _ _ _); refine Call_ ?_)
  k_with "my_vb" => exact VB.le (by walk_at "my_vs") (by decide)
  k_with "my_pos" => first | omega | exact pow10_pos | (apply Int.mul_pos <;> walk_at "my_pos")
  k_with "z binaryOp Pow int int" => (k_here; (with_reducible show wpAny _ _ (binaryOp _ (Value.int _ _) (Value.int _ _)) _ _ _); k_dflt (refine' PyProof.Rows.pow_int ?zzhn ?zzhsz ?_; (case zzhn => omega); (case zzhsz => ((try simp only [show Builtin.Int.intBits 10 = 4 from by decide]); omega)); k_whole))
  k_with "my_go" => k_steps
  k_with "z eval Constant int" => (k_here; (with_reducible refine' const_tk ?_); intro t9 tk9; (try dsimp only))
  k_with "z binaryOp Add int int" => (k_here; (with_reducible show wpAny _ _ (binaryOp _ (Value.int _ _) (Value.int _ _)) _ _ _); k_dflt (refine' add_tk ?_; k_whole; intro t9 tk9); (try dsimp only))
  k_with "z binaryOp Sub int int" => (k_here; (with_reducible show wpAny _ _ (binaryOp _ (Value.int _ _) (Value.int _ _)) _ _ _); k_dflt (refine' sub_tk ?_; k_whole; intro t9 tk9); (try dsimp only))
  trivial


set_option maxHeartbeats 0 in
theorem gcd_ok {w : World} {mean : ExcName → Option Value} {mg mb : Str → Option Value} {news : Led} {x y : Int} {t u : Tok} {k : Nat} (hx : 0 ≤ x) (hy : 0 < y) (hb : Bd k y) : Fn w mean mg mb 23 1 news [.int x t, .int y u] (PI news (fun c => c = (Int.gcd x y : Int) ∧ 0 < c ∧ Bd k c)) := by
  w_on
  unfold Fn
  k_fill
  intro dp un gd cn cs a ccd cl outer A₀ base h₀ L m s Q E B F X N T hk hd hu hret
  refine wpAny_call ?_
  k_dflt ktr_enter
  rename_i g L1 h1 FG1 F1 N1 B1 X1 T1
  k_steps
  unfold Stop
  refine while_ind (I := fun n s' => ∃ (i j : Int) (h' : Heap) (tk : Nat) (m' : Str → Option Value), 0 ≤ i ∧ 0 ≤ j ∧ j.toNat = n ∧ Int.gcd i j = Int.gcd x y ∧ s' = { s with heap := h', toks := tk } ∧ Fr g L1 h' m' ∧ News g L1 h' news ∧ (∃ t, m' "a" = some (.int i t)) ∧ (∃ t, m' "b" = some (.int j t))) (by walk_at "my_pe") ?_ y.toNat ?_
  · rintro n s' ⟨i, j, h', tk, m', hi, hj, hn, hg, rfl, F2, N2, ⟨ti, e1⟩, ⟨tj, e2⟩⟩
    replace F2 := frPut2 F2 e1 e2
    clear e1 e2
    k_steps
    · rename Fr _ _ _ _ => F3
      rename News _ _ _ _ => N3
      rename (0 < j) => hc
      exact ⟨_, hn ▸ fmod_lt' i hc, j, i.fmod j, _, _, _, hj, Int.fmod_nonneg_of_pos i hc, rfl, (gcd_step hi hc).trans hg, rfl, F3, fun p hp => N3 p (.tail _ hp), ⟨_, rfl⟩, ⟨_, rfl⟩⟩
    · rename (¬ 0 < j) => hc
      have e : i = (Int.gcd x y : Int) := by rw [← hg, ← gcd_end hj hi hc]
      exact endI hret (by k_asm) (by assumption) (by walk_at "my_sub") ⟨e, by rw [e]; exact gcd_pos hy, by rw [e]; exact hb.gcd hy⟩
  · exact ⟨x, y, _, _, _, hx, Int.le_of_lt hy, rfl, rfl, rfl, F1, N1, ⟨_, rfl⟩, ⟨_, rfl⟩⟩


theorem reg2 : True := by
  k_with "z call ref" => (k_here; (with_reducible show wpAny _ _ (call (Value.ref 23) [_, _]) _ _ _); k_dflt (refine' Fn.use (gcd_ok ?zzv1 ?zzv2 ?zzv3) ?zzk1 ?zzk2 ?zzk3 ?zzk4 ?zzk5 ?zzk6 ?zzkd ?zzku ?_; (case zzk1 => k_asm); (case zzk2 => k_asm); (case zzk4 => k_asm); (case zzk3 => k_asm); (case zzk5 => k_asm); (case zzv1 => walk_at "my_int"); (case zzv2 => walk_at "my_int"); (case zzv3 => walk_at "my_bs"); (case zzk6 => first | exact rfl | assumption); (case zzkd => walk_at "my_room"); (case zzku => walk_at "my_room"); k_whole); intro r9 news9 h9 tk9 F9 N9 P9; k_dflt (obtain ⟨e9, c9, t9, e8, q9⟩ := P9; subst e9; subst e8; (try (obtain ⟨q9a, q9b, q9c⟩ := q9))); (try dsimp only); (try k_fold))
  trivial
set_option maxHeartbeats 0 in
theorem is_na_ok {w : World} {mean : ExcName → Option Value} {mg mb : Str → Option Value} {news : Led} {v : Value} {d : V} (hv : VIn news v d) : Fn w mean mg mb 37 1 news [v] (PB news (fun r => r = .bool (isNa d))) := by
  cases hv with
  | none =>
    w_on
    unfold Fn
    k_fill
    intro dp un gd cn cs a ccd cl outer A₀ base h₀ L m s Q E B F X N T hk hd hu hret
    refine wpAny_call ?_
    k_dflt ktr_enter
    rename_i g L1 h1 FG1 F1 N1 B1 X1 T1
    k_steps
    exact endB hret (by k_asm) (by assumption) (by walk_at "my_sub") rfl
  | some H =>
    w_on
    unfold Fn
    k_fill
    intro dp un gd cn cs a ccd cl outer A₀ base h₀ L m s Q E B F X N T hk hd hu hret
    refine wpAny_call ?_
    k_dflt ktr_enter
    rename_i g L1 h1 FG1 F1 N1 B1 X1 T1
    k_steps
    all_goals exact endB hret (by k_asm) (by assumption) (by walk_at "my_sub") (by walk_at "my_bool")
set_option maxHeartbeats 0 in
theorem is_finite_ok {w : World} {mean : ExcName → Option Value} {mg mb : Str → Option Value} {news : Led} {v : Value} {d : V} (hv : VIn news v d) : Fn w mean mg mb 44 1 news [v] (PB news (fun r => r = .bool (isFin d))) := by
  cases hv with
  | none =>
    w_on
    unfold Fn
    k_fill
    intro dp un gd cn cs a ccd cl outer A₀ base h₀ L m s Q E B F X N T hk hd hu hret
    refine wpAny_call ?_
    k_dflt ktr_enter
    rename_i g L1 h1 FG1 F1 N1 B1 X1 T1
    k_steps
    exact endB hret (by k_asm) (by assumption) (by walk_at "my_sub") rfl
  | some H =>
    w_on
    unfold Fn
    k_fill
    intro dp un gd cn cs a ccd cl outer A₀ base h₀ L m s Q E B F X N T hk hd hu hret
    refine wpAny_call ?_
    k_dflt ktr_enter
    rename_i g L1 h1 FG1 F1 N1 B1 X1 T1
    k_steps
    all_goals exact endB hret (by k_asm) (by assumption) (by walk_at "my_sub") (by walk_at "my_bool")
set_option maxHeartbeats 0 in
theorem marked_ok {w : World} {mean : ExcName → Option Value} {mg mb : Str → Option Value} {news : Led} {v u : Value} {d e : V} (hv : VIn news v d) (hu : VIn news u e) : Fn w mean mg mb 51 1 news [v, u] (PV news (markedF d e)) := by
  cases hv with
  | none =>
    w_on
    unfold Fn
    k_fill
    intro dp un gd cn cs a ccd cl outer A₀ base h₀ L m s Q E B F X N T hk hd hu hret
    refine wpAny_call ?_
    k_dflt ktr_enter
    rename_i g L1 h1 FG1 F1 N1 B1 X1 T1
    k_steps
    all_goals exact endV hret (by k_asm) (by assumption) (by walk_at "my_sub") (by walk_at "my_vin") (by rfl)
  | some H =>
    cases hu with
    | none =>
      w_on
      unfold Fn
      k_fill
      intro dp un gd cn cs a ccd cl outer A₀ base h₀ L m s Q E B F X N T hk hd hu hret
      refine wpAny_call ?_
      k_dflt ktr_enter
      rename_i g L1 h1 FG1 F1 N1 B1 X1 T1
      k_steps
      all_goals exact endV hret (by k_asm) (by assumption) (by walk_at "my_sub") (by walk_at "my_vin") (by rfl)
    | some H2 =>
      w_on
      unfold Fn
      k_fill
      intro dp un gd cn cs a ccd cl outer A₀ base h₀ L m s Q E B F X N T hk hd hu hret
      refine wpAny_call ?_
      k_dflt ktr_enter
      rename_i g L1 h1 FG1 F1 N1 B1 X1 T1
      k_steps
      all_goals exact endV hret (by k_asm) (by assumption) (by walk_at "my_sub") (by walk_at "my_vin") (by rfl)
set_option maxHeartbeats 0 in
theorem neg_ok {w : World} {mean : ExcName → Option Value} {mg mb : Str → Option Value} {news : Led} {v : Value} {d : V} (hv : VIn news v d) : Fn w mean mg mb 58 1 news [v] (PV news (negF d)) := by
  cases hv with
  | none =>
    w_on
    unfold Fn
    k_fill
    intro dp un gd cn cs a ccd cl outer A₀ base h₀ L m s Q E B F X N T hk hd hu hret
    refine wpAny_call ?_
    k_dflt ktr_enter
    rename_i g L1 h1 FG1 F1 N1 B1 X1 T1
    k_steps
    all_goals exact endV hret (by k_asm) (by assumption) (by walk_at "my_sub") (by walk_at "my_vin") (by rfl)
  | some H =>
    w_on
    unfold Fn
    k_fill
    intro dp un gd cn cs a ccd cl outer A₀ base h₀ L m s Q E B F X N T hk hd hu hret
    refine wpAny_call ?_
    k_dflt ktr_enter
    rename_i g L1 h1 FG1 F1 N1 B1 X1 T1
    k_steps
    all_goals exact endV hret (by k_asm) (by assumption) (by walk_at "my_sub") (by walk_at "my_vin") (by rfl)
theorem is_na_none {w : World} {mean : ExcName → Option Value} {mg mb : Str → Option Value} {news : Led} : Fn w mean mg mb 37 1 news [.none] (PB news (fun r => r = .bool true)) := is_na_ok .none
theorem is_na_some {w : World} {mean : ExcName → Option Value} {mg mb : Str → Option Value} {news : Led} {a : Addr} {n d : Int} (H : Tp news a n d) : Fn w mean mg mb 37 1 news [.ref a] (PB news (fun r => r = .bool (decide (n = 0 ∧ d = 0)))) := is_na_ok (.some H)
theorem is_finite_none {w : World} {mean : ExcName → Option Value} {mg mb : Str → Option Value} {news : Led} : Fn w mean mg mb 44 1 news [.none] (PB news (fun r => r = .bool false)) := is_finite_ok .none
theorem is_finite_some {w : World} {mean : ExcName → Option Value} {mg mb : Str → Option Value} {news : Led} {a : Addr} {n d : Int} (H : Tp news a n d) : Fn w mean mg mb 44 1 news [.ref a] (PB news (fun r => r = .bool (decide (0 < d)))) := is_finite_ok (.some H)


theorem reg3 : True := by
  k_with "z call ref" => (k_here; (with_reducible show wpAny _ _ (call (Value.ref 44) [_]) _ _ _); k_dflt (refine' Fn.use (is_finite_ok ?zzv1) ?zzk1 ?zzk2 ?zzk3 ?zzk4 ?zzk5 ?zzk6 ?zzkd ?zzku ?_; (case zzk1 => k_asm); (case zzk2 => k_asm); (case zzk4 => k_asm); (case zzk3 => k_asm); (case zzk5 => k_asm); (case zzv1 => walk_at "my_vin"); (case zzk6 => first | exact rfl | assumption); (case zzkd => walk_at "my_room"); (case zzku => walk_at "my_room"); k_whole); intro r9 news9 h9 tk9 F9 N9 P9; k_dflt (obtain ⟨e9, e8⟩ := P9; subst e9; subst e8); (try dsimp only); (try k_fold))
  k_with "z call ref" => (k_here; (with_reducible show wpAny _ _ (call (Value.ref 37) [(Value.ref _)]) _ _ _); k_dflt (refine' Fn.use (is_na_some ?zzv1) ?zzk1 ?zzk2 ?zzk3 ?zzk4 ?zzk5 ?zzk6 ?zzkd ?zzku ?_; (case zzk1 => k_asm); (case zzk2 => k_asm); (case zzk4 => k_asm); (case zzk3 => k_asm); (case zzk5 => k_asm); (case zzv1 => walk_at "my_tp"); (case zzk6 => first | exact rfl | assumption); (case zzkd => walk_at "my_room"); (case zzku => walk_at "my_room"); k_whole); intro r9 news9 h9 tk9 F9 N9 P9; k_dflt (obtain ⟨e9, e8⟩ := P9; subst e9; subst e8); (try dsimp only); (try k_fold))
  k_with "z call ref" => (k_here; (with_reducible show wpAny _ _ (call (Value.ref 37) [Value.none]) _ _ _); k_dflt (refine' Fn.use (is_na_none ) ?zzk1 ?zzk2 ?zzk3 ?zzk4 ?zzk5 ?zzk6 ?zzkd ?zzku ?_; (case zzk1 => k_asm); (case zzk2 => k_asm); (case zzk4 => k_asm); (case zzk3 => k_asm); (case zzk5 => k_asm); (case zzk6 => first | exact rfl | assumption); (case zzkd => walk_at "my_room"); (case zzku => walk_at "my_room"); k_whole); intro r9 news9 h9 tk9 F9 N9 P9; k_dflt (obtain ⟨e9, e8⟩ := P9; subst e9; subst e8); (try dsimp only); (try k_fold))
  k_with "z call ref" => (k_here; (with_reducible show wpAny _ _ (call (Value.ref 44) [(Value.ref _)]) _ _ _); k_dflt (refine' Fn.use (is_finite_some ?zzv1) ?zzk1 ?zzk2 ?zzk3 ?zzk4 ?zzk5 ?zzk6 ?zzkd ?zzku ?_; (case zzk1 => k_asm); (case zzk2 => k_asm); (case zzk4 => k_asm); (case zzk3 => k_asm); (case zzk5 => k_asm); (case zzv1 => walk_at "my_tp"); (case zzk6 => first | exact rfl | assumption); (case zzkd => walk_at "my_room"); (case zzku => walk_at "my_room"); k_whole); intro r9 news9 h9 tk9 F9 N9 P9; k_dflt (obtain ⟨e9, e8⟩ := P9; subst e9; subst e8); (try dsimp only); (try k_fold))
  k_with "z call ref" => (k_here; (with_reducible show wpAny _ _ (call (Value.ref 44) [Value.none]) _ _ _); k_dflt (refine' Fn.use (is_finite_none ) ?zzk1 ?zzk2 ?zzk3 ?zzk4 ?zzk5 ?zzk6 ?zzkd ?zzku ?_; (case zzk1 => k_asm); (case zzk2 => k_asm); (case zzk4 => k_asm); (case zzk3 => k_asm); (case zzk5 => k_asm); (case zzk6 => first | exact rfl | assumption); (case zzkd => walk_at "my_room"); (case zzku => walk_at "my_room"); k_whole); intro r9 news9 h9 tk9 F9 N9 P9; k_dflt (obtain ⟨e9, e8⟩ := P9; subst e9; subst e8); (try dsimp only); (try k_fold))
  k_with "z call ref" => (k_here; (with_reducible show wpAny _ _ (call (Value.ref 51) [_, _]) _ _ _); k_dflt (refine' Fn.use (marked_ok ?zzv1 ?zzv2) ?zzk1 ?zzk2 ?zzk3 ?zzk4 ?zzk5 ?zzk6 ?zzkd ?zzku ?_; (case zzk1 => k_asm); (case zzk2 => k_asm); (case zzk4 => k_asm); (case zzk3 => k_asm); (case zzk5 => k_asm); (case zzv1 => walk_at "my_vin"); (case zzv2 => walk_at "my_vin"); (case zzk6 => first | exact rfl | assumption); (case zzkd => walk_at "my_room"); (case zzku => walk_at "my_room"); k_whole); intro r9 news9 h9 tk9 F9 N9 P9; k_dflt (obtain ⟨tl9, e9, o9, v9⟩ := P9; subst e9); (try dsimp only); (try k_fold))
  k_with "z call ref" => (k_here; (with_reducible show wpAny _ _ (call (Value.ref 58) [_]) _ _ _); k_dflt (refine' Fn.use (neg_ok ?zzv1) ?zzk1 ?zzk2 ?zzk3 ?zzk4 ?zzk5 ?zzk6 ?zzkd ?zzku ?_; (case zzk1 => k_asm); (case zzk2 => k_asm); (case zzk4 => k_asm); (case zzk3 => k_asm); (case zzk5 => k_asm); (case zzv1 => walk_at "my_vin"); (case zzk6 => first | exact rfl | assumption); (case zzkd => walk_at "my_room"); (case zzku => walk_at "my_room"); k_whole); intro r9 news9 h9 tk9 F9 N9 P9; k_dflt (obtain ⟨tl9, e9, o9, v9⟩ := P9; subst e9); (try dsimp only); (try k_fold))
  trivial
set_option maxHeartbeats 0 in
theorem make_ok {w : World} {mean : ExcName → Option Value} {mg mb : Str → Option Value} {news : Led} {n d : Int} {t u : Tok} (bd : Bd 8000 d) : Fn w mean mg mb 30 2 news [.int n t, .int d u] (PV news (makeF n d)) := by
  w_on
  unfold Fn
  k_fill
  intro dp un gd cn cs a ccd cl outer A₀ base h₀ L m s Q E B F X N T hk hd hu hret
  refine wpAny_call ?_
  k_dflt ktr_enter
  rename_i g L1 h1 FG1 F1 N1 B1 X1 T1
  k_steps
  · exact endV hret (by k_asm) (by assumption) (by walk_at "my_sub") (by walk_at "my_vin") (by simp only [makeF]; rw [if_pos (by assumption), if_pos (by assumption)])
  · exact endV hret (by k_asm) (by assumption) (by walk_at "my_sub") (by walk_at "my_vin") (by simp only [makeF]; rw [if_pos (by assumption), if_neg (by assumption), if_pos (by assumption)])
  · exact endV hret (by k_asm) (by assumption) (by walk_at "my_sub") (by walk_at "my_vin") (by simp only [makeF]; rw [if_pos (by assumption), if_neg (by assumption), if_neg (by assumption)])
  · rename (_ = ((Int.gcd _ _ : Nat) : Int)) => q
    exact endV hret (by k_asm) (by assumption) (by walk_at "my_sub") (by walk_at "my_vin") (by simp only [makeF]; rw [if_neg (by assumption), if_pos (by assumption), q, gcd_abs]; rfl)
  · rename (_ = ((Int.gcd _ _ : Nat) : Int)) => q
    exact endV hret (by k_asm) (by assumption) (by walk_at "my_sub") (by walk_at "my_vin") (by simp only [makeF]; rw [if_neg (by assumption), if_neg (by assumption), q, gcd_abs]; rfl)


theorem reg4 : True := by
  k_with "z call ref" => (k_here; (with_reducible show wpAny _ _ (call (Value.ref 30) [_, _]) _ _ _); k_dflt (refine' Fn.use (make_ok ?zzv1) ?zzk1 ?zzk2 ?zzk3 ?zzk4 ?zzk5 ?zzk6 ?zzkd ?zzku ?_; (case zzk1 => k_asm); (case zzk2 => k_asm); (case zzk4 => k_asm); (case zzk3 => k_asm); (case zzk5 => k_asm); (case zzv1 => walk_at "my_bd"); (case zzk6 => first | exact rfl | assumption); (case zzkd => walk_at "my_room"); (case zzku => walk_at "my_room"); k_whole); intro r9 news9 h9 tk9 F9 N9 P9; k_dflt (obtain ⟨tl9, e9, o9, v9⟩ := P9; subst e9); (try dsimp only); (try k_fold))
  trivial
theorem isNa_t {a b : Int} (h : a = 0 ∧ b = 0) : isNa (some (a, b)) = true := decide_eq_true h
theorem isNa_f {a b : Int} (h : ¬ (a = 0 ∧ b = 0)) : isNa (some (a, b)) = false := decide_eq_false h
theorem or_na {a b c e : Int} (h : (a = 0 ∧ b = 0) ∨ (c = 0 ∧ e = 0)) : (isNa (some (a, b)) || isNa (some (c, e))) = true := by
  rcases h with h | h
  · rw [isNa_t h, Bool.true_or]
  · rw [isNa_t h, Bool.or_true]
theorem or_nna {a b c e : Int} (h : ¬ ((a = 0 ∧ b = 0) ∨ (c = 0 ∧ e = 0))) : ¬ (isNa (some (a, b)) || isNa (some (c, e))) = true := by
  rw [isNa_f (fun x => h (.inl x)), isNa_f (fun x => h (.inr x))]; exact Bool.false_ne_true
section
variable {a b c e : Int}
theorem mulF_na (h : (a = 0 ∧ b = 0) ∨ (c = 0 ∧ e = 0)) : some (0, 0) = mulF (some (a, b)) (some (c, e)) := by unfold mulF; dsimp only; rw [if_pos (or_na h)]
theorem mulF_ok (h : ¬ ((a = 0 ∧ b = 0) ∨ (c = 0 ∧ e = 0))) : makeF (a * c) (b * e) = mulF (some (a, b)) (some (c, e)) := by unfold mulF; dsimp only; rw [if_neg (or_nna h)]
theorem divF_na (h : (a = 0 ∧ b = 0) ∨ (c = 0 ∧ e = 0)) : some (0, 0) = divF (some (a, b)) (some (c, e)) := by unfold divF; dsimp only; rw [if_pos (or_na h)]
theorem divF_top (h : b = 0 ∧ e = 0) : some (0, 0) = divF (some (a, b)) (some (c, e)) := by unfold divF; dsimp only; rw [if_pos h]; split <;> rfl
theorem divF_far (h : ¬ ((a = 0 ∧ b = 0) ∨ (c = 0 ∧ e = 0)) ∧ b = 0 ∧ e ≠ 0 ∧ ¬ c < 0) : some (a, b) = divF (some (a, b)) (some (c, e)) := by
  unfold divF; dsimp only; rw [if_neg (or_nna h.1), if_neg (fun x => h.2.2.1 x.2), if_pos h.2.1, if_neg h.2.2.2]
theorem divF_farN (h : ¬ ((a = 0 ∧ b = 0) ∨ (c = 0 ∧ e = 0)) ∧ b = 0 ∧ e ≠ 0 ∧ c < 0) : negF (some (a, b)) = divF (some (a, b)) (some (c, e)) := by
  unfold divF; dsimp only; rw [if_neg (or_nna h.1), if_neg (fun x => h.2.2.1 x.2), if_pos h.2.1, if_pos h.2.2.2]
theorem divF_ok (h : ¬ ((a = 0 ∧ b = 0) ∨ (c = 0 ∧ e = 0)) ∧ b ≠ 0) : makeF (a * e) (b * c) = divF (some (a, b)) (some (c, e)) := by
  unfold divF; dsimp only; rw [if_neg (or_nna h.1), if_neg (fun x => h.2 x.1), if_neg h.2]
theorem addF_na (h : (a = 0 ∧ b = 0) ∨ (c = 0 ∧ e = 0)) : some (0, 0) = addF (some (a, b)) (some (c, e)) := by unfold addF; dsimp only; rw [if_pos (or_na h)]
theorem addF_tt (h : ¬ ((a = 0 ∧ b = 0) ∨ (c = 0 ∧ e = 0)) ∧ b = 0 ∧ e = 0 ∧ a = c) : some (a, b) = addF (some (a, b)) (some (c, e)) := by
  unfold addF; dsimp only; rw [if_neg (or_nna h.1), if_pos ⟨h.2.1, h.2.2.1⟩, if_pos h.2.2.2]
theorem addF_tf (h : b = 0 ∧ e = 0 ∧ a ≠ c) : some (0, 0) = addF (some (a, b)) (some (c, e)) := by
  unfold addF; dsimp only; rw [if_pos (show b = 0 ∧ e = 0 from ⟨h.1, h.2.1⟩), if_neg h.2.2]; split <;> rfl
theorem addF_x (h : ¬ ((a = 0 ∧ b = 0) ∨ (c = 0 ∧ e = 0)) ∧ b = 0 ∧ e ≠ 0) : some (a, b) = addF (some (a, b)) (some (c, e)) := by
  unfold addF; dsimp only; rw [if_neg (or_nna h.1), if_neg (fun x => h.2.2 x.2), if_pos h.2.1]
theorem addF_y (h : ¬ ((a = 0 ∧ b = 0) ∨ (c = 0 ∧ e = 0)) ∧ b ≠ 0 ∧ e = 0) : some (c, e) = addF (some (a, b)) (some (c, e)) := by
  unfold addF; dsimp only; rw [if_neg (or_nna h.1), if_neg (fun x => h.2.1 x.1), if_neg h.2.1, if_pos h.2.2]
theorem addF_ok (h : ¬ ((a = 0 ∧ b = 0) ∨ (c = 0 ∧ e = 0)) ∧ b ≠ 0 ∧ e ≠ 0) : makeF (a * e + c * b) (b * e) = addF (some (a, b)) (some (c, e)) := by
  unfold addF; dsimp only; rw [if_neg (or_nna h.1), if_neg (fun x => h.2.1 x.1), if_neg h.2.1, if_neg h.2.2]
theorem floorF_ok (h : 0 < b) : some (a.fdiv b, 1) = floorF (some (a, b)) := by unfold floorF; dsimp only; rw [if_pos h]
theorem floorF_x (h : ¬ 0 < b) : some (a, b) = floorF (some (a, b)) := by unfold floorF; dsimp only; rw [if_neg h]
theorem remF_na (h : (a = 0 ∧ b = 0) ∨ (c = 0 ∧ e = 0)) : some (0, 0) = remF (some (a, b)) (some (c, e)) := by unfold remF; dsimp only; rw [if_pos (or_na h)]
theorem remF_nan (h : c = 0 ∨ b = 0) : some (0, 0) = remF (some (a, b)) (some (c, e)) := by unfold remF; dsimp only; rw [if_pos h]; split <;> rfl
theorem remF_y (h : ¬ ((a = 0 ∧ b = 0) ∨ (c = 0 ∧ e = 0)) ∧ ¬ (c = 0 ∨ b = 0) ∧ e = 0 ∧ a * c < 0) : some (c, e) = remF (some (a, b)) (some (c, e)) := by
  unfold remF; dsimp only; rw [if_neg (or_nna h.1), if_neg h.2.1, if_pos h.2.2.1, if_pos h.2.2.2]
theorem remF_x (h : ¬ ((a = 0 ∧ b = 0) ∨ (c = 0 ∧ e = 0)) ∧ ¬ (c = 0 ∨ b = 0) ∧ e = 0 ∧ ¬ a * c < 0) : some (a, b) = remF (some (a, b)) (some (c, e)) := by
  unfold remF; dsimp only; rw [if_neg (or_nna h.1), if_neg h.2.1, if_pos h.2.2.1, if_neg h.2.2.2]
theorem remF_ok (h : ¬ ((a = 0 ∧ b = 0) ∨ (c = 0 ∧ e = 0)) ∧ ¬ (c = 0 ∨ b = 0) ∧ e ≠ 0) : addF (some (a, b)) (negF (mulF (floorF (divF (some (a, b)) (some (c, e)))) (some (c, e)))) = remF (some (a, b)) (some (c, e)) := by
  unfold remF; dsimp only; rw [if_neg (or_nna h.1), if_neg h.2.1, if_neg h.2.2]
end
set_option maxHeartbeats 0 in
theorem mul_ok {w : World} {mean : ExcName → Option Value} {mg mb : Str → Option Value} {news : Led} {v u : Value} {x y : V} (hv : VIn news v x) (hu : VIn news u y) (bx : VB 1000 x) (by' : VB 1000 y) : Fn w mean mg mb 79 3 news [v, u] (PV news (mulF x y)) := by
  cases hv with
  | none =>
    w_on
    unfold Fn
    k_fill
    intro dp un gd cn cs a ccd cl outer A₀ base h₀ L m s Q E B F X N T hk hd hu hret
    refine wpAny_call ?_
    k_dflt ktr_enter
    rename_i g L1 h1 FG1 F1 N1 B1 X1 T1
    k_steps
    all_goals exact endV hret (by k_asm) (by assumption) (by walk_at "my_sub") (by walk_at "my_vin") (by rfl)
  | some H =>
    cases hu with
    | none =>
      w_on
      unfold Fn
      k_fill
      intro dp un gd cn cs a ccd cl outer A₀ base h₀ L m s Q E B F X N T hk hd hu hret
      refine wpAny_call ?_
      k_dflt ktr_enter
      rename_i g L1 h1 FG1 F1 N1 B1 X1 T1
      k_steps
      all_goals exact endV hret (by k_asm) (by assumption) (by walk_at "my_sub") (by walk_at "my_vin") (by rfl)
    | some H2 =>
      obtain ⟨b1, b2⟩ := bx _ _ rfl
      obtain ⟨b3, b4⟩ := by' _ _ rfl
      w_on
      unfold Fn
      k_fill
      intro dp un gd cn cs a ccd cl outer A₀ base h₀ L m s Q E B F X N T hk hd hu hret
      refine wpAny_call ?_
      k_dflt ktr_enter
      rename_i g L1 h1 FG1 F1 N1 B1 X1 T1
      k_steps
      all_goals exact endV hret (by k_asm) (by assumption) (by walk_at "my_sub") (by walk_at "my_vin") (by first | exact mulF_na (by omega) | exact mulF_ok (by omega))
set_option maxHeartbeats 0 in
theorem div_ok {w : World} {mean : ExcName → Option Value} {mg mb : Str → Option Value} {news : Led} {v u : Value} {x y : V} (hv : VIn news v x) (hu : VIn news u y) (bx : VB 1000 x) (by' : VB 1000 y) : Fn w mean mg mb 86 3 news [v, u] (PV news (divF x y)) := by
  cases hv with
  | none =>
    w_on
    unfold Fn
    k_fill
    intro dp un gd cn cs a ccd cl outer A₀ base h₀ L m s Q E B F X N T hk hd hu hret
    refine wpAny_call ?_
    k_dflt ktr_enter
    rename_i g L1 h1 FG1 F1 N1 B1 X1 T1
    k_steps
    all_goals exact endV hret (by k_asm) (by assumption) (by walk_at "my_sub") (by walk_at "my_vin") (by rfl)
  | some H =>
    cases hu with
    | none =>
      w_on
      unfold Fn
      k_fill
      intro dp un gd cn cs a ccd cl outer A₀ base h₀ L m s Q E B F X N T hk hd hu hret
      refine wpAny_call ?_
      k_dflt ktr_enter
      rename_i g L1 h1 FG1 F1 N1 B1 X1 T1
      k_steps
      all_goals exact endV hret (by k_asm) (by assumption) (by walk_at "my_sub") (by walk_at "my_vin") (by rfl)
    | some H2 =>
      obtain ⟨b1, b2⟩ := bx _ _ rfl
      obtain ⟨b3, b4⟩ := by' _ _ rfl
      w_on
      unfold Fn
      k_fill
      intro dp un gd cn cs a ccd cl outer A₀ base h₀ L m s Q E B F X N T hk hd hu hret
      refine wpAny_call ?_
      k_dflt ktr_enter
      rename_i g L1 h1 FG1 F1 N1 B1 X1 T1
      k_steps
      all_goals exact endV hret (by k_asm) (by assumption) (by walk_at "my_sub") (by walk_at "my_vin") (by first | exact divF_na (by omega) | exact divF_top (by omega) | exact divF_far (by omega) | exact divF_farN (by omega) | exact divF_ok (by omega))
set_option maxHeartbeats 0 in
theorem add_ok {w : World} {mean : ExcName → Option Value} {mg mb : Str → Option Value} {news : Led} {v u : Value} {x y : V} (hv : VIn news v x) (hu : VIn news u y) (bx : VB 1000 x) (by' : VB 1000 y) : Fn w mean mg mb 65 3 news [v, u] (PV news (addF x y)) := by
  cases hv with
  | none =>
    w_on
    unfold Fn
    k_fill
    intro dp un gd cn cs a ccd cl outer A₀ base h₀ L m s Q E B F X N T hk hd hu hret
    refine wpAny_call ?_
    k_dflt ktr_enter
    rename_i g L1 h1 FG1 F1 N1 B1 X1 T1
    k_steps
    all_goals exact endV hret (by k_asm) (by assumption) (by walk_at "my_sub") (by walk_at "my_vin") (by rfl)
  | some H =>
    cases hu with
    | none =>
      w_on
      unfold Fn
      k_fill
      intro dp un gd cn cs a ccd cl outer A₀ base h₀ L m s Q E B F X N T hk hd hu hret
      refine wpAny_call ?_
      k_dflt ktr_enter
      rename_i g L1 h1 FG1 F1 N1 B1 X1 T1
      k_steps
      all_goals exact endV hret (by k_asm) (by assumption) (by walk_at "my_sub") (by walk_at "my_vin") (by rfl)
    | some H2 =>
      obtain ⟨b1, b2⟩ := bx _ _ rfl
      obtain ⟨b3, b4⟩ := by' _ _ rfl
      w_on
      unfold Fn
      k_fill
      intro dp un gd cn cs a ccd cl outer A₀ base h₀ L m s Q E B F X N T hk hd hu hret
      refine wpAny_call ?_
      k_dflt ktr_enter
      rename_i g L1 h1 FG1 F1 N1 B1 X1 T1
      k_steps
      all_goals exact endV hret (by k_asm) (by assumption) (by walk_at "my_sub") (by walk_at "my_vin") (by first | exact addF_na (by omega) | exact addF_tt (by omega) | exact addF_tf (by omega) | exact addF_x (by omega) | exact addF_y (by omega) | exact addF_ok (by omega))
set_option maxHeartbeats 0 in
theorem floor_ok {w : World} {mean : ExcName → Option Value} {mg mb : Str → Option Value} {news : Led} {v : Value} {x : V} (hv : VIn news v x) (bx : VB 1000 x) : Fn w mean mg mb 93 2 news [v] (PV news (floorF x)) := by
  cases hv with
  | none =>
    w_on
    unfold Fn
    k_fill
    intro dp un gd cn cs a ccd cl outer A₀ base h₀ L m s Q E B F X N T hk hd hu hret
    refine wpAny_call ?_
    k_dflt ktr_enter
    rename_i g L1 h1 FG1 F1 N1 B1 X1 T1
    k_steps
    all_goals exact endV hret (by k_asm) (by assumption) (by walk_at "my_sub") (by walk_at "my_vin") (by rfl)
  | some H =>
    obtain ⟨b1, b2⟩ := bx _ _ rfl
    w_on
    unfold Fn
    k_fill
    intro dp un gd cn cs a ccd cl outer A₀ base h₀ L m s Q E B F X N T hk hd hu hret
    refine wpAny_call ?_
    k_dflt ktr_enter
    rename_i g L1 h1 FG1 F1 N1 B1 X1 T1
    k_steps
    all_goals exact endV hret (by k_asm) (by assumption) (by walk_at "my_sub") (by walk_at "my_vin") (by first | exact floorF_ok (by omega) | exact floorF_x (by omega))
theorem div_nl {w : World} {mean : ExcName → Option Value} {mg mb : Str → Option Value} {news : Led} {u : Value} {y : V} (hu : VIn news u y) (by' : VB 1000 y) : Fn w mean mg mb 86 3 news [.none, u] (PV news none) := div_ok .none hu .none by'
theorem div_nr {w : World} {mean : ExcName → Option Value} {mg mb : Str → Option Value} {news : Led} {v : Value} {x : V} (hv : VIn news v x) (bx : VB 1000 x) : Fn w mean mg mb 86 3 news [v, .none] (PV news none) := by
  have e : divF x none = none := by cases x <;> rfl
  have := div_ok (w := w) (mean := mean) (mg := mg) (mb := mb) hv .none bx .none
  rw [e] at this
  exact this


theorem reg5 : True := by
  k_with "z call ref" => (k_here; (with_reducible show wpAny _ _ (call (Value.ref 79) [_, _]) _ _ _); k_dflt (refine' Fn.use (mul_ok ?zzv1 ?zzv2 ?zzv3 ?zzv4) ?zzk1 ?zzk2 ?zzk3 ?zzk4 ?zzk5 ?zzk6 ?zzkd ?zzku ?_; (case zzk1 => k_asm); (case zzk2 => k_asm); (case zzk4 => k_asm); (case zzk3 => k_asm); (case zzk5 => k_asm); (case zzv1 => walk_at "my_vin"); (case zzv2 => walk_at "my_vin"); (case zzv3 => walk_at "my_vb"); (case zzv4 => walk_at "my_vb"); (case zzk6 => first | exact rfl | assumption); (case zzkd => walk_at "my_room"); (case zzku => walk_at "my_room"); k_whole); intro r9 news9 h9 tk9 F9 N9 P9; k_dflt (obtain ⟨tl9, e9, o9, v9⟩ := P9; subst e9); (try dsimp only); (try k_fold))
  k_with "z call ref" => (k_here; (with_reducible show wpAny _ _ (call (Value.ref 86) [_, _]) _ _ _); k_dflt (refine' Fn.use (div_ok ?zzv1 ?zzv2 ?zzv3 ?zzv4) ?zzk1 ?zzk2 ?zzk3 ?zzk4 ?zzk5 ?zzk6 ?zzkd ?zzku ?_; (case zzk1 => k_asm); (case zzk2 => k_asm); (case zzk4 => k_asm); (case zzk3 => k_asm); (case zzk5 => k_asm); (case zzv1 => walk_at "my_vin"); (case zzv2 => walk_at "my_vin"); (case zzv3 => walk_at "my_vb"); (case zzv4 => walk_at "my_vb"); (case zzk6 => first | exact rfl | assumption); (case zzkd => walk_at "my_room"); (case zzku => walk_at "my_room"); k_whole); intro r9 news9 h9 tk9 F9 N9 P9; k_dflt (obtain ⟨tl9, e9, o9, v9⟩ := P9; subst e9); (try dsimp only); (try k_fold))
  k_with "z call ref" => (k_here; (with_reducible show wpAny _ _ (call (Value.ref 86) [Value.none, _]) _ _ _); k_dflt (refine' Fn.use (div_nl ?zzv1 ?zzv2) ?zzk1 ?zzk2 ?zzk3 ?zzk4 ?zzk5 ?zzk6 ?zzkd ?zzku ?_; (case zzk1 => k_asm); (case zzk2 => k_asm); (case zzk4 => k_asm); (case zzk3 => k_asm); (case zzk5 => k_asm); (case zzv1 => walk_at "my_vin"); (case zzv2 => walk_at "my_vb"); (case zzk6 => first | exact rfl | assumption); (case zzkd => walk_at "my_room"); (case zzku => walk_at "my_room"); k_whole); intro r9 news9 h9 tk9 F9 N9 P9; k_dflt (obtain ⟨tl9, e9, o9, v9⟩ := P9; subst e9; cases v9); (try dsimp only); (try k_fold))
  k_with "z call ref" => (k_here; (with_reducible show wpAny _ _ (call (Value.ref 86) [_, Value.none]) _ _ _); k_dflt (refine' Fn.use (div_nr ?zzv1 ?zzv2) ?zzk1 ?zzk2 ?zzk3 ?zzk4 ?zzk5 ?zzk6 ?zzkd ?zzku ?_; (case zzk1 => k_asm); (case zzk2 => k_asm); (case zzk4 => k_asm); (case zzk3 => k_asm); (case zzk5 => k_asm); (case zzv1 => walk_at "my_vin"); (case zzv2 => walk_at "my_vb"); (case zzk6 => first | exact rfl | assumption); (case zzkd => walk_at "my_room"); (case zzku => walk_at "my_room"); k_whole); intro r9 news9 h9 tk9 F9 N9 P9; k_dflt (obtain ⟨tl9, e9, o9, v9⟩ := P9; subst e9; cases v9); (try dsimp only); (try k_fold))
  k_with "z call ref" => (k_here; (with_reducible show wpAny _ _ (call (Value.ref 65) [_, _]) _ _ _); k_dflt (refine' Fn.use (add_ok ?zzv1 ?zzv2 ?zzv3 ?zzv4) ?zzk1 ?zzk2 ?zzk3 ?zzk4 ?zzk5 ?zzk6 ?zzkd ?zzku ?_; (case zzk1 => k_asm); (case zzk2 => k_asm); (case zzk4 => k_asm); (case zzk3 => k_asm); (case zzk5 => k_asm); (case zzv1 => walk_at "my_vin"); (case zzv2 => walk_at "my_vin"); (case zzv3 => walk_at "my_vb"); (case zzv4 => walk_at "my_vb"); (case zzk6 => first | exact rfl | assumption); (case zzkd => walk_at "my_room"); (case zzku => walk_at "my_room"); k_whole); intro r9 news9 h9 tk9 F9 N9 P9; k_dflt (obtain ⟨tl9, e9, o9, v9⟩ := P9; subst e9); (try dsimp only); (try k_fold))
  k_with "z call ref" => (k_here; (with_reducible show wpAny _ _ (call (Value.ref 93) [_]) _ _ _); k_dflt (refine' Fn.use (floor_ok ?zzv1 ?zzv2) ?zzk1 ?zzk2 ?zzk3 ?zzk4 ?zzk5 ?zzk6 ?zzkd ?zzku ?_; (case zzk1 => k_asm); (case zzk2 => k_asm); (case zzk4 => k_asm); (case zzk3 => k_asm); (case zzk5 => k_asm); (case zzv1 => walk_at "my_vin"); (case zzv2 => walk_at "my_vb"); (case zzk6 => first | exact rfl | assumption); (case zzkd => walk_at "my_room"); (case zzku => walk_at "my_room"); k_whole); intro r9 news9 h9 tk9 F9 N9 P9; k_dflt (obtain ⟨tl9, e9, o9, v9⟩ := P9; subst e9); (try dsimp only); (try k_fold))
  trivial
set_option maxHeartbeats 0 in
theorem sub_ok {w : World} {mean : ExcName → Option Value} {mg mb : Str → Option Value} {news : Led} {v u : Value} {x y : V} (hv : VIn news v x) (hu : VIn news u y) (bx : VB 1000 x) (by' : VB 1000 y) : Fn w mean mg mb 72 4 news [v, u] (PV news (addF x (negF y))) := by
  w_on
  unfold Fn
  k_fill
  intro dp un gd cn cs a ccd cl outer A₀ base h₀ L m s Q E B F X N T hk hd hu hret
  refine wpAny_call ?_
  k_dflt ktr_enter
  rename_i g L1 h1 FG1 F1 N1 B1 X1 T1
  k_steps
  all_goals exact endV hret (by k_asm) (by assumption) (by walk_at "my_sub") (by walk_at "my_vin") (by rfl)
set_option maxHeartbeats 0 in
theorem int_div_ok {w : World} {mean : ExcName → Option Value} {mg mb : Str → Option Value} {news : Led} {v u : Value} {x y : V} (hv : VIn news v x) (hu : VIn news u y) (bx : VB 60 x) (by' : VB 60 y) : Fn w mean mg mb 135 4 news [v, u] (PV news (intDivF x y)) := by
  cases hv with
  | none =>
    w_on
    unfold Fn
    k_fill
    intro dp un gd cn cs a ccd cl outer A₀ base h₀ L m s Q E B F X N T hk hd hu hret
    refine wpAny_call ?_
    k_dflt ktr_enter
    rename_i g L1 h1 FG1 F1 N1 B1 X1 T1
    k_steps
    all_goals exact endV hret (by k_asm) (by assumption) (by walk_at "my_sub") (by walk_at "my_vin") (by rfl)
  | some H =>
    cases hu with
    | none =>
      w_on
      unfold Fn
      k_fill
      intro dp un gd cn cs a ccd cl outer A₀ base h₀ L m s Q E B F X N T hk hd hu hret
      refine wpAny_call ?_
      k_dflt ktr_enter
      rename_i g L1 h1 FG1 F1 N1 B1 X1 T1
      k_steps
      all_goals exact endV hret (by k_asm) (by assumption) (by walk_at "my_sub") (by walk_at "my_vin") (by rfl)
    | some H2 =>
      obtain ⟨b1, b2⟩ := bx _ _ rfl
      obtain ⟨b3, b4⟩ := by' _ _ rfl
      w_on
      unfold Fn
      k_fill
      intro dp un gd cn cs a ccd cl outer A₀ base h₀ L m s Q E B F X N T hk hd hu hret
      refine wpAny_call ?_
      k_dflt ktr_enter
      rename_i g L1 h1 FG1 F1 N1 B1 X1 T1
      k_steps
      all_goals exact endV hret (by k_asm) (by assumption) (by walk_at "my_sub") (by walk_at "my_vin") (by unfold intDivF; first | (rw [if_pos (by assumption)]; dsimp only; (repeat' split) <;> first | rfl | (exfalso; omega)) | (rw [if_neg (fun h => Bool.false_ne_true (Eq.trans (Eq.symm (by assumption)) h))]))


theorem reg6 : True := by
  k_with "z call ref" => (k_here; (with_reducible show wpAny _ _ (call (Value.ref 72) [_, _]) _ _ _); k_dflt (refine' Fn.use (sub_ok ?zzv1 ?zzv2 ?zzv3 ?zzv4) ?zzk1 ?zzk2 ?zzk3 ?zzk4 ?zzk5 ?zzk6 ?zzkd ?zzku ?_; (case zzk1 => k_asm); (case zzk2 => k_asm); (case zzk4 => k_asm); (case zzk3 => k_asm); (case zzk5 => k_asm); (case zzv1 => walk_at "my_vin"); (case zzv2 => walk_at "my_vin"); (case zzv3 => walk_at "my_vb"); (case zzv4 => walk_at "my_vb"); (case zzk6 => first | exact rfl | assumption); (case zzkd => walk_at "my_room"); (case zzku => walk_at "my_room"); k_whole); intro r9 news9 h9 tk9 F9 N9 P9; k_dflt (obtain ⟨tl9, e9, o9, v9⟩ := P9; subst e9); (try dsimp only); (try k_fold))
  k_with "z call ref" => (k_here; (with_reducible show wpAny _ _ (call (Value.ref 135) [_, _]) _ _ _); k_dflt (refine' Fn.use (int_div_ok ?zzv1 ?zzv2 ?zzv3 ?zzv4) ?zzk1 ?zzk2 ?zzk3 ?zzk4 ?zzk5 ?zzk6 ?zzkd ?zzku ?_; (case zzk1 => k_asm); (case zzk2 => k_asm); (case zzk4 => k_asm); (case zzk3 => k_asm); (case zzk5 => k_asm); (case zzv1 => walk_at "my_vin"); (case zzv2 => walk_at "my_vin"); (case zzv3 => walk_at "my_vb"); (case zzv4 => walk_at "my_vb"); (case zzk6 => first | exact rfl | assumption); (case zzkd => walk_at "my_room"); (case zzku => walk_at "my_room"); k_whole); intro r9 news9 h9 tk9 F9 N9 P9; k_dflt (obtain ⟨tl9, e9, o9, v9⟩ := P9; subst e9); (try dsimp only); (try k_fold))
  trivial
set_option maxHeartbeats 0 in
theorem remainder_ok {w : World} {mean : ExcName → Option Value} {mg mb : Str → Option Value} {news : Led} {v u : Value} {x y : V} (hv : VIn news v x) (hu : VIn news u y) (bx : VB 60 x) (by' : VB 60 y) : Fn w mean mg mb 142 5 news [v, u] (PV news (remF x y)) := by
  cases hv with
  | none =>
    w_on
    unfold Fn
    k_fill
    intro dp un gd cn cs a ccd cl outer A₀ base h₀ L m s Q E B F X N T hk hd hu hret
    refine wpAny_call ?_
    k_dflt ktr_enter
    rename_i g L1 h1 FG1 F1 N1 B1 X1 T1
    k_steps
    all_goals exact endV hret (by k_asm) (by assumption) (by walk_at "my_sub") (by walk_at "my_vin") (by rfl)
  | some H =>
    cases hu with
    | none =>
      w_on
      unfold Fn
      k_fill
      intro dp un gd cn cs a ccd cl outer A₀ base h₀ L m s Q E B F X N T hk hd hu hret
      refine wpAny_call ?_
      k_dflt ktr_enter
      rename_i g L1 h1 FG1 F1 N1 B1 X1 T1
      k_steps
      all_goals exact endV hret (by k_asm) (by assumption) (by walk_at "my_sub") (by walk_at "my_vin") (by rfl)
    | some H2 =>
      obtain ⟨b1, b2⟩ := bx _ _ rfl
      obtain ⟨b3, b4⟩ := by' _ _ rfl
      w_on
      unfold Fn
      k_fill
      intro dp un gd cn cs a ccd cl outer A₀ base h₀ L m s Q E B F X N T hk hd hu hret
      refine wpAny_call ?_
      k_dflt ktr_enter
      rename_i g L1 h1 FG1 F1 N1 B1 X1 T1
      k_steps
      all_goals exact endV hret (by k_asm) (by assumption) (by walk_at "my_sub") (by walk_at "my_vin") (by first | exact remF_na (by omega) | exact remF_nan (by omega) | exact remF_y (by omega) | exact remF_x (by omega) | exact remF_ok (by omega))


theorem reg7 : True := by
  k_with "z call ref" => (k_here; (with_reducible show wpAny _ _ (call (Value.ref 142) [_, _]) _ _ _); k_dflt (refine' Fn.use (remainder_ok ?zzv1 ?zzv2 ?zzv3 ?zzv4) ?zzk1 ?zzk2 ?zzk3 ?zzk4 ?zzk5 ?zzk6 ?zzkd ?zzku ?_; (case zzk1 => k_asm); (case zzk2 => k_asm); (case zzk4 => k_asm); (case zzk3 => k_asm); (case zzk5 => k_asm); (case zzv1 => walk_at "my_vin"); (case zzv2 => walk_at "my_vin"); (case zzv3 => walk_at "my_vb"); (case zzv4 => walk_at "my_vb"); (case zzk6 => first | exact rfl | assumption); (case zzkd => walk_at "my_room"); (case zzku => walk_at "my_room"); k_whole); intro r9 news9 h9 tk9 F9 N9 P9; k_dflt (obtain ⟨tl9, e9, o9, v9⟩ := P9; subst e9); (try dsimp only); (try k_fold))
  trivial
set_option maxHeartbeats 0 in
theorem near_ok {w : World} {mean : ExcName → Option Value} {mg mb : Str → Option Value} {news : Led} {n d : Int} {t u : Tok} (hd : 0 < d) (bn : Bd 3000 n) (bd : Bd 3000 d) : Fn w mean mg mb 100 1 news [.int n t, .int d u] (PI news (fun c => c = nearF n d)) := by
  w_on
  unfold Fn
  k_fill
  intro dp un gd cn cs a ccd cl outer A₀ base h₀ L m s Q E B F X N T hk hd hu hret
  refine wpAny_call ?_
  k_dflt ktr_enter
  rename_i g L1 h1 FG1 F1 N1 B1 X1 T1
  k_steps
  all_goals exact endI hret (by k_asm) (by assumption) (by walk_at "my_sub") (by unfold nearF; first | rw [if_pos (by omega)] | rw [if_neg (by omega)])


theorem reg8 : True := by
  k_with "z call ref" => (k_here; (with_reducible show wpAny _ _ (call (Value.ref 100) [_, _]) _ _ _); k_dflt (refine' Fn.use (near_ok ?zzv1 ?zzv2 ?zzv3) ?zzk1 ?zzk2 ?zzk3 ?zzk4 ?zzk5 ?zzk6 ?zzkd ?zzku ?_; (case zzk1 => k_asm); (case zzk2 => k_asm); (case zzk4 => k_asm); (case zzk3 => k_asm); (case zzk5 => k_asm); (case zzv1 => walk_at "my_pos"); (case zzv2 => walk_at "my_bd"); (case zzv3 => walk_at "my_bd"); (case zzk6 => first | exact rfl | assumption); (case zzkd => walk_at "my_room"); (case zzku => walk_at "my_room"); k_whole); intro r9 news9 h9 tk9 F9 N9 P9; k_dflt (obtain ⟨e9, c9, t9, e8, q9⟩ := P9; subst e9; subst e8; subst q9); (try dsimp only); (try k_fold))
  trivial
set_option maxHeartbeats 0 in
theorem rounded_ok {w : World} {mean : ExcName → Option Value} {mg mb : Str → Option Value} {news : Led} {a : Addr} {n d p : Int} {t : Tok} (H : Tp news a n d) (hd : 0 < d) (bn : Bd 300 n) (bd : Bd 300 d) (hp : -60 ≤ p ∧ p ≤ 60) : Fn w mean mg mb 107 3 news [.ref a, .int p t] (PV news (roundF n d p)) := by
  w_on
  unfold Fn
  k_fill
  intro dp un gd cn cs a ccd cl outer A₀ base h₀ L m s Q E B F X N T hk hd hu hret
  refine wpAny_call ?_
  k_dflt ktr_enter
  rename_i g L1 h1 FG1 F1 N1 B1 X1 T1
  k_steps
  · exact endV hret (by k_asm) (by assumption) (by walk_at "my_sub") (by walk_at "my_vin") (by unfold roundF; rw [if_pos (by omega)])
  · exact endV hret (by k_asm) (by assumption) (by walk_at "my_sub") (by walk_at "my_vin") (by unfold roundF; rw [if_neg (by omega)])


theorem reg9 : True := by
  k_with "z call ref" => (k_here; (with_reducible show wpAny _ _ (call (Value.ref 107) [_, _]) _ _ _); k_dflt (refine' Fn.use (rounded_ok ?zzv1 ?zzv2 ?zzv3 ?zzv4 ?zzv5) ?zzk1 ?zzk2 ?zzk3 ?zzk4 ?zzk5 ?zzk6 ?zzkd ?zzku ?_; (case zzk1 => k_asm); (case zzk2 => k_asm); (case zzk4 => k_asm); (case zzk3 => k_asm); (case zzk5 => k_asm); (case zzv1 => walk_at "my_tp"); (case zzv2 => walk_at "my_pos"); (case zzv3 => walk_at "my_bd"); (case zzv4 => walk_at "my_bd"); (case zzv5 => omega); (case zzk6 => first | exact rfl | assumption); (case zzkd => walk_at "my_room"); (case zzku => walk_at "my_room"); k_whole); intro r9 news9 h9 tk9 F9 N9 P9; k_dflt (obtain ⟨tl9, e9, o9, v9⟩ := P9; subst e9); (try dsimp only); (try k_fold))
  trivial
set_option maxHeartbeats 0 in
theorem rhe_ok {w : World} {mean : ExcName → Option Value} {mg mb : Str → Option Value} {news : Led} {v : Value} {x : V} {p : Int} {t : Tok} (hv : VIn news v x) (bx : VB 300 x) (hp : p = 400 ∨ (-60 ≤ p ∧ p ≤ 60)) : Fn w mean mg mb 114 4 news [v, .int p t] (PV news (rheF x p)) := by
  cases hv with
  | none =>
    w_on
    unfold Fn
    k_fill
    intro dp un gd cn cs a ccd cl outer A₀ base h₀ L m s Q E B F X N T hk hd hu hret
    refine wpAny_call ?_
    k_dflt ktr_enter
    rename_i g L1 h1 FG1 F1 N1 B1 X1 T1
    k_steps
    all_goals exact endV hret (by k_asm) (by assumption) (by walk_at "my_sub") (by walk_at "my_vin") (by rfl)
  | some H =>
    obtain ⟨b1, b2⟩ := bx _ _ rfl
    w_on
    unfold Fn
    k_fill
    intro dp un gd cn cs a ccd cl outer A₀ base h₀ L m s Q E B F X N T hk hd hu hret
    refine wpAny_call ?_
    k_dflt ktr_enter
    rename_i g L1 h1 FG1 F1 N1 B1 X1 T1
    k_steps
    all_goals exact endV hret (by k_asm) (by assumption) (by walk_at "my_sub") (by walk_at "my_vin") (by unfold rheF; dsimp only; first | rw [if_neg (show ¬ ((-400 : Int) > p) by omega), if_pos (by omega)] | rw [if_neg (by omega)])


theorem reg10 : True := by
  k_with "z call ref" => (k_here; (with_reducible show wpAny _ _ (call (Value.ref 114) [_, _]) _ _ _); k_dflt (refine' Fn.use (rhe_ok ?zzv1 ?zzv2 ?zzv3) ?zzk1 ?zzk2 ?zzk3 ?zzk4 ?zzk5 ?zzk6 ?zzkd ?zzku ?_; (case zzk1 => k_asm); (case zzk2 => k_asm); (case zzk4 => k_asm); (case zzk3 => k_asm); (case zzk5 => k_asm); (case zzv1 => walk_at "my_vin"); (case zzv2 => walk_at "my_vb"); (case zzv3 => omega); (case zzk6 => first | exact rfl | assumption); (case zzkd => walk_at "my_room"); (case zzku => walk_at "my_room"); k_whole); intro r9 news9 h9 tk9 F9 N9 P9; k_dflt (obtain ⟨tl9, e9, o9, v9⟩ := P9; subst e9); (try dsimp only); (try k_fold))
  trivial
/-- c is the place of the first figure of n / d -/
def IsExp (n d c : Int) : Prop := (0 ≤ c ∧ 10 ^ c.toNat * d ≤ n ∧ n < 10 ^ (c.toNat + 1) * d) ∨ (c < 0 ∧ d ≤ n * 10 ^ (-c).toNat ∧ n * 10 ^ ((-c).toNat - 1) < d)



set_option maxHeartbeats 0 in
theorem exponent_ok {w : World} {mean : ExcName → Option Value} {mg mb : Str → Option Value} {news : Led} {a : Addr} {n d : Int} (H : Tp news a n d) (hd0 : 0 < d) (hn0 : n ≠ 0) (bn : Bd 300 n) (bd : Bd 300 d) : Fn w mean mg mb 121 1 news [.ref a] (PI news (fun c => IsExp n.natAbs d c)) := by
  w_on
  unfold Fn
  k_fill
  intro dp un gd cn cs a ccd cl outer A₀ base h₀ L m s Q E B F X N T hk hd hu hret
  refine wpAny_call ?_
  k_dflt ktr_enter
  rename_i g L1 h1 FG1 F1 N1 B1 X1 T1
  k_steps
  unfold Stop
  have eN : (if n < 0 then -n else n) = (n.natAbs : Int) := by split <;> omega
  have bN : Bd 300 (n.natAbs : Int) := by unfold Bd at *; omega
  have hN : 0 < (n.natAbs : Int) := by omega
  rename Fr g _ _ _ => F2
  rename News g _ _ _ => N2
  rw [eN] at F2
  generalize (n.natAbs : Int) = N at *
  refine while_ind (I := fun μ s' => ∃ (k : Nat) (D e : Int) (h' : Heap) (tk : Nat) (m' : Str → Option Value), D = d * 10 ^ k ∧ e = (k : Int) ∧ (k = 0 ∨ D ≤ N) ∧ 0 < D ∧ Bd 300 D ∧ (N - D).toNat = μ ∧ s' = { s with heap := h', toks := tk } ∧ Fr g L1 h' m' ∧ News g L1 h' news ∧ (∃ t, m' "n" = some (.int N t)) ∧ (∃ t, m' "d" = some (.int D t)) ∧ (∃ t, m' "e" = some (.int e t))) (by walk_at "my_pe") ?_ (N - d).toNat ?_
  · rintro μ s' ⟨k, D, e, h', tk, m', hD, he, hk0, hDp, bD, hμ, rfl, F3, N3, ⟨t1, e1⟩, ⟨t2, e2⟩, ⟨t3, e3⟩⟩
    clear F2 N2
    replace F3 := frPut3 F3 e1 e2 e3
    clear e1 e2 e3
    k_steps
    · rename Fr g _ _ _ => F4
      rename News g _ _ _ => N4
      rename (_ ≤ N) => hc
      refine ⟨_, ?_, k + 1, D * 10, e + 1, _, _, _, ?_, by omega, .inr (by omega), by omega, bN.lt (by omega) (by omega), rfl, rfl, F4, N4, ⟨_, rfl⟩, ⟨_, rfl⟩, ⟨_, rfl⟩⟩
      · omega
      · rw [hD, Int.pow_succ, Int.mul_assoc]
    · unfold Stop
      rename (¬ _ ≤ N) => hc
      refine while_ind (I := fun μ s' => ∃ (j : Nat) (M f : Int) (h' : Heap) (tk : Nat) (m' : Str → Option Value), M = N * 10 ^ j ∧ f = (k : Int) - j ∧ (j = 0 ∨ (k = 0 ∧ N * 10 ^ (j - 1) < D)) ∧ 0 < M ∧ Bd 310 M ∧ (D - M).toNat = μ ∧ s' = { s with heap := h', toks := tk } ∧ Fr g L1 h' m' ∧ News g L1 h' news ∧ (∃ t, m' "n" = some (.int M t)) ∧ (∃ t, m' "d" = some (.int D t)) ∧ (∃ t, m' "e" = some (.int f t))) (by walk_at "my_pe") ?_ (D - N).toNat ?_
      · rintro μ' s' ⟨j, M, f, h', tk, m', hM, hf, hj, hMp, bM, hμ', rfl, F5, N5, ⟨t1, e1⟩, ⟨t2, e2⟩, ⟨t3, e3⟩⟩
        clear F3 N3
        replace F5 := frPut3 F5 e1 e2 e3
        clear e1 e2 e3
        k_steps
        · rename Fr g _ _ _ => F6
          rename News g _ _ _ => N6
          rename (M < D) => hc2
          have hk : k = 0 := by
            rcases hk0 with h | h
            · exact h
            · rcases hj with h' | h'
              · subst h'; rw [Int.pow_zero, Int.mul_one] at hM; omega
              · exact h'.1
          refine ⟨_, ?_, j + 1, M * 10, f - 1, _, _, _, ?_, by omega, .inr ⟨hk, ?_⟩, by omega, ?_, rfl, rfl, F6, N6, ⟨_, rfl⟩, ⟨_, rfl⟩, ⟨_, rfl⟩⟩
          · omega
          · rw [hM, Int.pow_succ, Int.mul_assoc]
          · rw [Nat.add_sub_cancel, ← hM]; exact hc2
          · have b1 : Bd 300 M := bD.lt (by omega) (by omega)
            exact (b1.mul (k := 4) (b := 10) (by unfold Bd; decide)).le (by decide)
        · rename (¬ M < D) => hc2
          exact endI hret (by k_asm) (by assumption) (by walk_at "my_sub") (by
            rcases hj with h | ⟨hk, h⟩
            · subst h
              rw [Int.pow_zero, Int.mul_one] at hM
              refine .inl ⟨by omega, ?_, ?_⟩
              · rw [show f.toNat = k by omega, Int.mul_comm, ← hD]; omega
              · rw [show f.toNat = k by omega, Int.pow_succ, Int.mul_comm, ← Int.mul_assoc, ← hD]; omega
            · by_cases h0 : j = 0
              · subst h0
                rw [Int.pow_zero, Int.mul_one] at hM
                subst hk
                rw [Int.pow_zero, Int.mul_one] at hD
                refine .inl ⟨by omega, ?_, ?_⟩
                · rw [show f.toNat = 0 by omega, Int.pow_zero]; omega
                · rw [show f.toNat = 0 by omega]; omega
              · subst hk
                rw [Int.pow_zero, Int.mul_one] at hD
                refine .inr ⟨by omega, ?_, ?_⟩
                · rw [show (-f).toNat = j by omega, ← hM, ← hD]; omega
                · rw [show (-f).toNat = j by omega, ← hD]; exact h)
      · exact ⟨0, N, e, _, _, _, by simp, by omega, .inl rfl, hN, bN.le (by decide), rfl, rfl, F3, N3, ⟨_, rfl⟩, ⟨_, rfl⟩, ⟨_, rfl⟩⟩
  · refine ⟨0, d, 0, _, _, _, by simp, rfl, .inl rfl, hd0, bd, rfl, rfl, F2, N2, ⟨_, rfl⟩, ⟨_, rfl⟩, ⟨_, rfl⟩⟩
theorem pow10_lt {k : Nat} {m : Int} (h : (10 : Int) ^ k ≤ m) (hb : Bd 100 m) : k ≤ 31 := by
  refine Nat.le_of_not_lt fun hk => ?_
  have h1 : (10 : Int) ^ 32 ≤ 10 ^ k := by
    have h2 : ((10 ^ 32 : Nat) : Int) ≤ ((10 ^ k : Nat) : Int) := Int.ofNat_le.mpr (Nat.pow_le_pow_right (by decide) hk)
    rw [Int.natCast_pow, Int.natCast_pow] at h2
    exact h2
  unfold Bd at hb
  omega
theorem IsExp.bound {N d c : Int} (h : IsExp N d c) (hN : 0 < N) (hd : 0 < d) (bn : Bd 100 N) (bd : Bd 100 d) : -32 ≤ c ∧ c ≤ 32 := by
  rcases h with ⟨h0, h1, _⟩ | ⟨h0, _, h2⟩
  · have : (10 : Int) ^ c.toNat ≤ N := by
      have h3 : (10 : Int) ^ c.toNat * 1 ≤ 10 ^ c.toNat * d := Int.mul_le_mul_of_nonneg_left (by omega) (Int.le_of_lt pow10_pos)
      omega
    have := pow10_lt this bn
    omega
  · have : (10 : Int) ^ ((-c).toNat - 1) ≤ d := by
      have h3 : 1 * (10 : Int) ^ ((-c).toNat - 1) ≤ N * 10 ^ ((-c).toNat - 1) := Int.mul_le_mul_of_nonneg_right (by omega) (Int.le_of_lt pow10_pos)
      omega
    have := pow10_lt this bd
    omega
theorem exponent_ok2 {w : World} {mean : ExcName → Option Value} {mg mb : Str → Option Value} {news : Led} {a : Addr} {n d : Int} (H : Tp news a n d) (hd0 : 0 < d) (hn0 : n ≠ 0) (bn : Bd 100 n) (bd : Bd 100 d) : Fn w mean mg mb 121 1 news [.ref a] (PI news (fun c => IsExp n.natAbs d c ∧ -32 ≤ c ∧ c ≤ 32)) := by
  have h := exponent_ok (w := w) (mean := mean) (mg := mg) (mb := mb) H hd0 hn0 (bn.le (by decide)) (bd.le (by decide))
  have bN : Bd 100 (n.natAbs : Int) := by unfold Bd at *; omega
  intro dp un gd cn cs a ccd cl outer A₀ base h₀ L m s Q E B F X N T hk hd hu hret
  exact h dp un gd cn cs a ccd cl outer A₀ base h₀ L m s Q E B F X N T hk hd hu fun r news' h' tk' F' N' P => hret r news' h' tk' F' N' ⟨P.1, by
    obtain ⟨_, c, t, e, q⟩ := P
    exact ⟨c, t, e, q, q.bound (by omega) hd0 bN bd⟩⟩
def SigR (x : V) (g : Int) (z : V) : Prop := match x with
  | none => z = none
  | some (n, d) => if 0 < d ∧ n ≠ 0 ∧ g ≤ 22 then ∃ c, IsExp n.natAbs d c ∧ z = roundF n d ((if 1 > g then 1 else g) - 1 - c) else z = some (n, d)
def PS (news : Led) (S : V → Prop) (news' : Led) (r : Value) : Prop := ∃ z, S z ∧ PV news z news' r
theorem endS {h₀ h' : Heap} {L : Addr} {m : Str → Option Value} {news full : Led} {S : V → Prop} {d' : V} {s : Shared} {Q : Value → Shared → Prop} {r : Value} {tk' : Nat}
    (hret : ∀ r news' h' tk', Fr h₀ L h' m → News h₀ L h' news' → PS news S news' r → Q r { s with heap := h', toks := tk' })
    (F : Fr h₀ L h' m) (N : News h₀ L h' full) (sub : ∀ p ∈ news, p ∈ full) (v : VIn full r d') (e : S d') : Q r { s with heap := h', toks := tk' } :=
  endV (fun r news' h' tk' F N P => hret r news' h' tk' F N ⟨d', e, P⟩) F N sub v rfl


theorem reg11 : True := by
  k_with "z call ref" => (k_here; (with_reducible show wpAny _ _ (call (Value.ref 121) [_]) _ _ _); k_dflt (refine' Fn.use (exponent_ok2 ?zzv1 ?zzv2 ?zzv3 ?zzv4 ?zzv5) ?zzk1 ?zzk2 ?zzk3 ?zzk4 ?zzk5 ?zzk6 ?zzkd ?zzku ?_; (case zzk1 => k_asm); (case zzk2 => k_asm); (case zzk4 => k_asm); (case zzk3 => k_asm); (case zzk5 => k_asm); (case zzv1 => walk_at "my_tp"); (case zzv2 => walk_at "my_pos"); (case zzv3 => omega); (case zzv4 => walk_at "my_bd"); (case zzv5 => walk_at "my_bd"); (case zzk6 => first | exact rfl | assumption); (case zzkd => walk_at "my_room"); (case zzku => walk_at "my_room"); k_whole); intro r9 news9 h9 tk9 F9 N9 P9; k_dflt (obtain ⟨e9, c9, t9, e8, q9⟩ := P9; subst e9; subst e8; (try (obtain ⟨q9a, q9b, q9c⟩ := q9))); (try dsimp only); (try k_fold))
  trivial
set_option maxHeartbeats 0 in
theorem signif_ok {w : World} {mean : ExcName → Option Value} {mg mb : Str → Option Value} {news : Led} {v : Value} {x : V} {g : Int} {t : Tok} (hv : VIn news v x) (bx : VB 100 x) (hg : 0 ≤ g ∧ g ≤ 24) : Fn w mean mg mb 128 4 news [v, .int g t] (PS news (SigR x g)) := by
  cases hv with
  | none =>
    w_on
    unfold Fn
    k_fill
    intro dp un gd cn cs a ccd cl outer A₀ base h₀ L m s Q E B F X N T hk hd hu hret
    refine wpAny_call ?_
    k_dflt ktr_enter
    rename_i g L1 h1 FG1 F1 N1 B1 X1 T1
    k_steps
    all_goals exact endS hret (by k_asm) (by assumption) (by walk_at "my_sub") (by walk_at "my_vin") (by rfl)
  | some H =>
    obtain ⟨b1, b2⟩ := bx _ _ rfl
    w_on
    unfold Fn
    k_fill
    intro dp un gd cn cs a ccd cl outer A₀ base h₀ L m s Q E B F X N T hk hd hu hret
    refine wpAny_call ?_
    k_dflt ktr_enter
    rename_i g L1 h1 FG1 F1 N1 B1 X1 T1
    k_steps
    all_goals exact endS hret (by k_asm) (by assumption) (by walk_at "my_sub") (by walk_at "my_vin") (by unfold SigR; dsimp only; first | rw [if_neg (by omega)] | (rw [if_pos (by omega)]; exact ⟨_, by assumption, rfl⟩))


theorem reg12 : True := by
  k_with "z call ref" => (k_here; (with_reducible show wpAny _ _ (call (Value.ref 128) [_, _]) _ _ _); k_dflt (refine' Fn.use (signif_ok ?zzv1 ?zzv2 ?zzv3) ?zzk1 ?zzk2 ?zzk3 ?zzk4 ?zzk5 ?zzk6 ?zzkd ?zzku ?_; (case zzk1 => k_asm); (case zzk2 => k_asm); (case zzk4 => k_asm); (case zzk3 => k_asm); (case zzk5 => k_asm); (case zzv1 => walk_at "my_vin"); (case zzv2 => walk_at "my_vb"); (case zzv3 => omega); (case zzk6 => first | exact rfl | assumption); (case zzkd => walk_at "my_room"); (case zzku => walk_at "my_room"); k_whole); intro r9 news9 h9 tk9 F9 N9 P9; k_dflt (obtain ⟨z9, q9, tl9, e9, o9, v9⟩ := P9; subst e9); (try dsimp only); (try k_fold))
  trivial
set_option maxHeartbeats 0 in
theorem reduced_ok {w : World} {mean : ExcName → Option Value} {mg mb : Str → Option Value} {news : Led} {n d : Int} {t u : Tok} (hd0 : 0 < d) (bd : Bd 8000 d) : Fn w mean mg mb 163 1 news [.int n t, .int d u] (PV news (some (red n d))) := by
  w_on
  unfold Fn
  k_fill
  intro dp un gd cn cs a ccd cl outer A₀ base h₀ L m s Q E B F X N T hk hd hu hret
  refine wpAny_call ?_
  k_dflt ktr_enter
  rename_i g L1 h1 FG1 F1 N1 B1 X1 T1
  k_steps
  unfold Stop
  rename Fr g _ _ _ => F2
  rename News g _ _ _ => N2
  have eN : (if n < 0 then -n else n) = (n.natAbs : Int) := by split <;> omega
  rw [eN] at F2
  have eG : Int.gcd (n.natAbs : Int) d = Int.gcd n d := by rw [← eN, gcd_abs]
  have hN : 0 ≤ (n.natAbs : Int) := by omega
  generalize (n.natAbs : Int) = x at *
  refine while_ind (I := fun μ s' => ∃ (i j : Int) (h' : Heap) (tk : Nat) (m' : Str → Option Value), 0 ≤ i ∧ 0 ≤ j ∧ j.toNat = μ ∧ Int.gcd i j = Int.gcd x d ∧ s' = { s with heap := h', toks := tk } ∧ Fr g L1 h' m' ∧ News g L1 h' news ∧ (∃ t, m' "a" = some (.int i t)) ∧ (∃ t, m' "b" = some (.int j t)) ∧ (∃ t, m' "n" = some (.int n t)) ∧ (∃ t, m' "d" = some (.int d t))) (by walk_at "my_pe") ?_ d.toNat ?_
  · rintro μ s' ⟨i, j, h', tk, m', hi, hj, hn, hg, rfl, F3, N3, ⟨ti, e1⟩, ⟨tj, e2⟩, ⟨tn, e3⟩, ⟨td, e4⟩⟩
    clear F2 N2
    replace F3 := frPut4 F3 e1 e2 e3 e4
    clear e1 e2 e3 e4
    have hex : ¬ 0 < j → i = (Int.gcd n d : Int) ∧ i ≠ 0 ∧ Bd 8000 i := fun hc => by
      have e : i = (Int.gcd n d : Int) := by rw [← eG, ← hg, ← gcd_end hj hi hc]
      have hp := @gcd_pos n d hd0
      exact ⟨e, by omega, by rw [e]; exact bd.gcd hd0⟩
    k_steps
    · rename Fr g _ _ _ => F4
      rename News g _ _ _ => N4
      rename (0 < j) => hc
      exact ⟨_, hn ▸ fmod_lt' i hc, j, i.fmod j, _, _, _, hj, Int.fmod_nonneg_of_pos i hc, rfl, (gcd_step hi hc).trans hg, rfl, F4, fun p hp => N4 p (.tail _ hp), ⟨_, rfl⟩, ⟨_, rfl⟩, ⟨_, rfl⟩, ⟨_, rfl⟩⟩
    · rename (¬ 0 < j) => hc
      obtain ⟨e, h0, b0⟩ := hex hc
      clear hex
      walk_at "my_go"
      exact endV hret (by k_asm) (by assumption) (by walk_at "my_sub") (by walk_at "my_vin") (by rw [e]; rfl)
  · exact ⟨x, d, _, _, _, hN, Int.le_of_lt hd0, rfl, rfl, rfl, F2, N2, ⟨_, rfl⟩, ⟨_, rfl⟩, ⟨_, rfl⟩, ⟨_, rfl⟩⟩


theorem reg13 : True := by
  k_with "z call ref" => (k_here; (with_reducible show wpAny _ _ (call (Value.ref 163) [_, _]) _ _ _); k_dflt (refine' Fn.use (reduced_ok ?zzv1 ?zzv2) ?zzk1 ?zzk2 ?zzk3 ?zzk4 ?zzk5 ?zzk6 ?zzkd ?zzku ?_; (case zzk1 => k_asm); (case zzk2 => k_asm); (case zzk4 => k_asm); (case zzk3 => k_asm); (case zzk5 => k_asm); (case zzv1 => walk_at "my_pos"); (case zzv2 => walk_at "my_bd"); (case zzk6 => first | exact rfl | assumption); (case zzkd => walk_at "my_room"); (case zzku => walk_at "my_room"); k_whole); intro r9 news9 h9 tk9 F9 N9 P9; k_dflt (obtain ⟨tl9, e9, o9, v9⟩ := P9; subst e9); (try dsimp only); (try k_fold))
  trivial
def RowL (vs : List Value) : Prop := vs.length ≤ 160 ∧ ∀ v ∈ vs, ∃ c t, v = .int c t ∧ 0 ≤ c ∧ c < 1024
theorem RowL.ints : ∀ {vs : List Value}, (∀ v ∈ vs, ∃ c t, v = Value.int c t ∧ 0 ≤ c ∧ c < 1024) → ∃ ns, IntsAre vs ns ∧ ns.length = vs.length
  | [], _ => ⟨[], .nil, rfl⟩
  | v :: vs, h => by
    obtain ⟨c, t, rfl, _⟩ := h v (.head _)
    obtain ⟨ns, hi, hl⟩ := RowL.ints (vs := vs) fun u hu => h u (.tail _ hu)
    exact ⟨c :: ns, .cons c t hi, by rw [List.length_cons, List.length_cons, hl]⟩
theorem canLay_ints : ∀ ns : List Int, PyData.canLayAll0 (ns.map PyData.int) = true
  | [] => rfl
  | _ :: ns => by simp only [List.map_cons, PyData.canLayAll0, PyData.canLay0, canLay_ints ns, Bool.and_self]
theorem min_zero_le {a b c : Nat} (hb : b ≤ c) : min a b ≤ c := Nat.le_trans (Nat.min_le_right _ _) hb
section
variable {prog : Program} {w : World} {A : Around} {E : Value → Shared → Prop} {s : Shared} {h₀ : Heap} {L a b : Addr} {news : Led} {vs : List Value} {k k' : Nat} {Q : Value → Shared → Prop}
theorem row_ne (N : News h₀ L s.heap news) (ma : (a, listOf vs.toArray k) ∈ news) (mb : (b, listOf #[] k') ∈ news) (hv : ∀ v ∈ vs, ∃ c t, v = Value.int c t ∧ 0 ≤ c ∧ c < 1024) (hu : A.units + 8 < cLine)
    (h : Q (.bool (!vs.isEmpty)) s) : wpAny (model prog w) A (compareOp .NotEq (.ref a) (.ref b)) Q E s := by
  obtain ⟨ns, hi, hl⟩ := RowL.ints hv
  refine SeqAt.compareNe_reads (da := .list (ns.map PyData.int)) (db := .list []) (reads_list_at (N.get ma) rfl rfl (by simpa [W.listOf] using hi.reads s.heap)) (reads_list_at (N.get mb) rfl rfl (by simpa [W.listOf] using ReadsAll.nil)) (canLay_ints ns) rfl ?_ ?_
  · have : (PyData.list []).depth ≤ 4 := by decide
    have := min_zero_le (a := (PyData.list (ns.map PyData.int)).depth) this
    omega
  · have e : PyData.eqv (.list (ns.map PyData.int)) (.list []) = vs.isEmpty := by
      cases vs with
      | nil => cases hi; rfl
      | cons v vs => cases hi; rfl
    rw [e]; exact h
end
theorem Tups.ne {h₀ h : Heap} {L a : Addr} {o : Obj} {full news : Led} (hT : Tups news) (N : News h₀ L h full) (sub : ∀ p ∈ news, p ∈ full) (hm : (a, o) ∈ full) (ho : o.cls ≠ .type "tuple") : ∀ p ∈ news, p.1 ≠ a := by
  intro p hp e
  have h1 := (N p (sub p hp)).1
  have h2 := (N _ hm).1
  rw [e] at h1
  have h3 : p.2 = o := Option.some.inj (h1.symm.trans h2)
  exact ho (h3 ▸ hT p hp)
def Off (a : Addr) (l : Led) : Prop := ∀ p ∈ l, p.1 ≠ a
section
variable {prog : Program} {w : World} {A : Around} {E : Value → Shared → Prop} {s : Shared} {h₀ : Heap} {L a b : Addr} {m : Str → Option Value} {news : Led} {vs : List Value} {y : Value} {k : Nat} {ob : Obj} {Q : Value → Shared → Prop}
theorem row_pop (F : Fr h₀ L s.heap m) (N : News h₀ L s.heap ((b, ob) :: (a, W.listOf (vs ++ [y]).toArray k) :: news)) (hb : a < b) (hT : Off a news) (hz : (vs ++ [y]).length ≤ 160)
    (h : ∀ h', Fr h₀ L h' m → News h₀ L h' ((b, ob) :: (a, W.listOf vs.toArray (k + 1)) :: news) → Q y { s with heap := h' }) : wpAny (model prog w) A (call (.builtin "list.pop") [.ref a]) Q E s := by
  refine kl_pop F N (p := vs) (y := y) (by simpa using kpa_last y vs) (.tail (Nat.ne_of_gt hb) (.head hT)) (Nat.le_trans hz (by decide)) h
end
def RowAt (o : Obj) : Prop := ∃ vs k, o = W.listOf vs.toArray k ∧ RowL vs
/-- what _law_next leaves -/
def PN (a : Addr) (news news' : Led) (r : Value) : Prop := ∃ o' c t, RowAt o' ∧ (a, o') :: news = news' ∧ r = .int c t ∧ 0 ≤ c ∧ c < 1024
theorem row_cases (vs : List Value) : vs = [] ∨ ∃ us y, vs = us ++ [y] := by
  cases h : vs.reverse with
  | nil => left; simpa using h
  | cons y us => right; exact ⟨us.reverse, y, by rw [← List.reverse_reverse vs, h, List.reverse_cons]⟩
theorem RowL.front {us : List Value} {y : Value} (h : RowL (us ++ [y])) : RowL us := ⟨by have := h.1; simp at this; omega, fun v hv => h.2 v (List.mem_append.mpr (.inl hv))⟩
theorem Off.nil {a : Addr} : Off a [] := fun _ h => nomatch h
theorem Off.cons {a : Addr} {q : Addr × Obj} {l : Led} (h : q.1 ≠ a) (r : Off a l) : Off a (q :: l) := fun p hp => by
  rcases List.mem_cons.mp hp with rfl | hp
  · exact h
  · exact r p hp
theorem Off.app {a : Addr} {t l : Led} (h : Off a t) (r : Off a l) : Off a (t ++ l) := fun p hp => by
  rcases List.mem_append.mp hp with hp | hp
  · exact h p hp
  · exact r p hp
/-- what _law_next leaves, where the row lies behind «pre» -/
def PNs (pre : Led) (a : Addr) (post news' : Led) (r : Value) : Prop := ∃ o' c t, RowAt o' ∧ pre ++ (a, o') :: post = news' ∧ r = .int c t ∧ 0 ≤ c ∧ c < 1024
section
variable {prog : Program} {w : World} {A : Around} {E : Value → Shared → Prop} {s : Shared} {h₀ : Heap} {L D : Addr} {full : Led} {v0 v1 v2 v3 : Value} {k : Nat} {i : Int} {u : Tok} {value slice : Expr} {Q : Value → Shared → Prop}
theorem list_item {vs : List Value} {v : Value} (N : News h₀ L s.heap full) (hm : (D, W.listOf vs.toArray k) ∈ full) (h0 : 0 ≤ i) (hh : i < 2 ^ 63) (hx : vs[i.toNat]? = some v) (h : Q v s)
    (hs : subscripted slice false (.ref D) (.int i u) = operate [.ref D, .int i u] (getItem (.ref D) (.int i u))) :
    wpAny (model prog w) A (subscriptTail value slice (.ref D) (.int i u)) Q E s :=
  have hl : s.heap.IsList D vs.toArray := ⟨_, N.get hm, rfl, k, rfl⟩
  tail_any hl.typeIs slot_list_getitem.lookup (wpAny_getItem_list hl h0 hh (by simpa using hx) h) hs
theorem list_item2 (N : News h₀ L s.heap full) (hm : (D, W.listOf #[v0, v1] k) ∈ full) (hi : 0 ≤ i ∧ i < 2) (h0 : i = 0 → Q v0 s) (h1 : i = 1 → Q v1 s)
    (hs : subscripted slice false (.ref D) (.int i u) = operate [.ref D, .int i u] (getItem (.ref D) (.int i u))) :
    wpAny (model prog w) A (subscriptTail value slice (.ref D) (.int i u)) Q E s := by
  have hc : i = 0 ∨ i = 1 := by omega
  rcases hc with e | e
  · exact list_item (vs := [v0, v1]) (v := v0) N hm hi.1 (by omega) (by subst e; rfl) (h0 e) hs
  · exact list_item (vs := [v0, v1]) (v := v1) N hm hi.1 (by omega) (by subst e; rfl) (h1 e) hs
theorem list_item4 (N : News h₀ L s.heap full) (hm : (D, W.listOf #[v0, v1, v2, v3] k) ∈ full) (hi : 0 ≤ i ∧ i < 4) (h0 : i = 0 → Q v0 s) (h1 : i = 1 → Q v1 s) (h2 : i = 2 → Q v2 s) (h3 : i = 3 → Q v3 s)
    (hs : subscripted slice false (.ref D) (.int i u) = operate [.ref D, .int i u] (getItem (.ref D) (.int i u))) :
    wpAny (model prog w) A (subscriptTail value slice (.ref D) (.int i u)) Q E s := by
  have hc : i = 0 ∨ i = 1 ∨ i = 2 ∨ i = 3 := by omega
  rcases hc with e | e | e | e
  · exact list_item (vs := [v0, v1, v2, v3]) (v := v0) N hm hi.1 (by omega) (by subst e; rfl) (h0 e) hs
  · exact list_item (vs := [v0, v1, v2, v3]) (v := v1) N hm hi.1 (by omega) (by subst e; rfl) (h1 e) hs
  · exact list_item (vs := [v0, v1, v2, v3]) (v := v2) N hm hi.1 (by omega) (by subst e; rfl) (h2 e) hs
  · exact list_item (vs := [v0, v1, v2, v3]) (v := v3) N hm hi.1 (by omega) (by subst e; rfl) (h3 e) hs
end



theorem reg14 : True := by
  k_with "z compareOp NotEq ref ref" => (k_here; (with_reducible show wpAny _ _ (compareOp CmpOp.NotEq (Value.ref _) (Value.ref _)) _ _ _); k_dflt (refine' row_ne ?zzN ?zza ?zzb ?zzhv ?zzhu ?_; (case zzN => k_asm); (case zza => k_mem); (case zzb => k_mem); (case zzhv => walk_at "my_ints"); (case zzhu => walk_at "my_room"); k_whole))
  k_with "my_ints" => first | assumption | exact fun _ h => nomatch h
  k_with "z call builtin:list.pop" => (k_here; (with_reducible show wpAny _ _ (call (Value.builtin "list.pop") _) _ _ _); k_dflt (refine' row_pop ?zzF ?zzN ?zzb ?zzT ?zzz ?_; (case zzF => k_asm); (case zzN => k_asm); (case zzb => first | exact And.left (by assumption) | omega); (case zzT => assumption); (case zzz => assumption); k_whole); intro h' F' N')
  trivial
set_option maxHeartbeats 0 in
theorem next_ok0 {w : World} {mean : ExcName → Option Value} {mg mb : Str → Option Value} {news : Led} {a : Addr} {k : Nat} : Fn w mean mg mb 156 2 ((a, W.listOf (List.toArray []) k) :: news) [.ref a] (PN a news) := by
  w_on
  unfold Fn
  k_fill
  intro dp un gd cn cs a ccd cl outer A₀ base h₀ L m s Q E B F X N T hk hd hu hret
  refine wpAny_call ?_
  k_dflt ktr_enter
  rename_i g L1 h1 FG1 F1 N1 B1 X1 T1
  k_steps
  exact hret _ _ _ _ (by k_asm) (fun p hp => (by assumption : News h₀ L _ _) p (.tail _ hp)) ⟨W.listOf (List.toArray []) k, _, _, ⟨[], k, rfl, by decide, fun _ h => nomatch h⟩, rfl, rfl, by decide, by decide⟩
set_option maxHeartbeats 0 in
theorem next_ok1 {w : World} {mean : ExcName → Option Value} {mg mb : Str → Option Value} {news : Led} {a : Addr} {k : Nat} {vs : List Value} {y : Value} (hT : Off a news) (hR : RowL (vs ++ [y])) : Fn w mean mg mb 156 2 ((a, W.listOf (vs ++ [y]).toArray k) :: news) [.ref a] (PN a news) := by
  obtain ⟨hl, hr⟩ := hR
  obtain ⟨c, t, rfl, c0, c1⟩ := hr y (List.mem_append.mpr (.inr (.head _)))
  w_on
  unfold Fn
  k_fill
  intro dp un gd cn cs a ccd cl outer A₀ base h₀ L m s Q E B F X N T hk hd hu hret
  refine wpAny_call ?_
  k_dflt ktr_enter
  rename_i g L1 h1 FG1 F1 N1 B1 X1 T1
  k_steps
  · rename (_ = true) => hc
    exfalso
    simp at hc
  · exact hret _ _ _ _ (by k_asm) (fun p hp => (by assumption : News h₀ L _ _) p (.tail _ hp)) ⟨_, c, t, ⟨vs, _, rfl, RowL.front ⟨hl, hr⟩⟩, rfl, rfl, c0, c1⟩
theorem next_ok {w : World} {mean : ExcName → Option Value} {mg mb : Str → Option Value} {news : Led} {a : Addr} {o : Obj} (hT : Off a news) (ro : RowAt o) : Fn w mean mg mb 156 2 ((a, o) :: news) [.ref a] (PN a news) := by
  obtain ⟨vs, k, rfl, hR⟩ := ro
  rcases row_cases vs with rfl | ⟨us, y, rfl⟩
  · exact next_ok0
  · exact next_ok1 hT hR
theorem next_ats {w : World} {mean : ExcName → Option Value} {mg mb : Str → Option Value} {pre post : Led} {a : Addr} {o : Obj} (hp : Off a pre) (hq : Off a post) (ro : RowAt o) : Fn w mean mg mb 156 2 (pre ++ (a, o) :: post) [.ref a] (PNs pre a post) := by
  intro dp un gd cn cs ad ccd cl outer A₀ base h₀ L m s Q E B F X N T hk hd hu hret
  refine next_ok (news := pre ++ post) (hp.app hq) ro dp un gd cn cs ad ccd cl outer A₀ base h₀ L m s Q E B F X (fun p h => N p ?_) T hk hd hu fun r news' h' tk' F' N' ⟨o', c, t, h1, h2, h3, h4⟩ => hret r (pre ++ (a, o') :: post) h' tk' F' (fun p h => N' p (h2 ▸ ?_)) ⟨o', c, t, h1, rfl, h3, h4⟩
  · rcases List.mem_cons.mp h with rfl | h
    · exact List.mem_append.mpr (.inr (.head _))
    · rcases List.mem_append.mp h with h | h
      · exact List.mem_append.mpr (.inl h)
      · exact List.mem_append.mpr (.inr (.tail _ h))
  · rcases List.mem_append.mp h with h | h
    · exact .tail _ (List.mem_append.mpr (.inl h))
    · rcases List.mem_cons.mp h with rfl | h
      · exact .head _
      · exact .tail _ (List.mem_append.mpr (.inr h))
theorem next_at5 {w : World} {mean : ExcName → Option Value} {mg mb : Str → Option Value} {q1 q2 q3 q4 q5 : Addr × Obj} {post : Led} {a : Addr} {o : Obj} (hp : Off a [q1, q2, q3, q4, q5]) (hq : Off a post) (ro : RowAt o) : Fn w mean mg mb 156 2 (q1 :: q2 :: q3 :: q4 :: q5 :: (a, o) :: post) [.ref a] (PNs [q1, q2, q3, q4, q5] a post) := next_ats hp hq ro
theorem next_at0 {w : World} {mean : ExcName → Option Value} {mg mb : Str → Option Value} {post : Led} {a : Addr} {o : Obj} (hp : Off a []) (hq : Off a post) (ro : RowAt o) : Fn w mean mg mb 156 2 ((a, o) :: post) [.ref a] (PNs [] a post) := next_ats hp hq ro



def GoodV (x : V) : Prop := match x with
  | none => True
  | some (n, d) => Bd 60 n ∧ Bd 60 d ∧ ((d = 0 ∧ (n = 0 ∨ n = 1 ∨ n = -1)) ∨ (0 < d ∧ Int.gcd n d = 1))
theorem red_eq {n d : Int} (hd : 0 < d) : red n d = (n / (Int.gcd n d : Int), d / (Int.gcd n d : Int)) := by
  have h := @gcd_pos n d hd
  unfold red
  rw [Int.fdiv_eq_ediv_of_nonneg _ (Int.le_of_lt h), Int.fdiv_eq_ediv_of_nonneg _ (Int.le_of_lt h)]
theorem red_pos {n d : Int} (hd : 0 < d) : 0 < (red n d).2 := by
  have h := @gcd_pos n d hd
  rw [red_eq hd]
  exact Int.ediv_pos_of_pos_of_dvd hd (Int.le_of_lt h) (Int.gcd_dvd_right n d)
theorem red_gcd {n d : Int} (hd : 0 < d) : Int.gcd (red n d).1 (red n d).2 = 1 := by
  rw [red_eq hd]
  exact Int.gcd_ediv_gcd_ediv_gcd (by have := @gcd_pos n d hd; omega)
theorem good_red {n d : Int} (hd : 0 < d) (bn : Bd 50 n) (bd : Bd 50 d) : GoodV (some (red n d)) :=
  ⟨bn.fdiv.le (by decide), bd.fdiv.le (by decide), .inr ⟨red_pos hd, red_gcd hd⟩⟩
theorem good_lit {n d : Int} (h : (n = 0 ∧ d = 1) ∨ (n = 0 ∧ d = 0) ∨ (n = 1 ∧ d = 0) ∨ (n = -1 ∧ d = 0)) : GoodV (some (n, d)) := by
  rcases h with ⟨rfl, rfl⟩ | ⟨rfl, rfl⟩ | ⟨rfl, rfl⟩ | ⟨rfl, rfl⟩
  · exact ⟨by unfold Bd; decide, by unfold Bd; decide, .inr ⟨by decide, by decide⟩⟩
  · exact ⟨by unfold Bd; decide, by unfold Bd; decide, .inl ⟨by decide, by decide⟩⟩
  · exact ⟨by unfold Bd; decide, by unfold Bd; decide, .inl ⟨by decide, by decide⟩⟩
  · exact ⟨by unfold Bd; decide, by unfold Bd; decide, .inl ⟨by decide, by decide⟩⟩
def PD (a : Addr) (news news' : Led) (r : Value) : Prop := ∃ o' tl x, RowAt o' ∧ Tups tl ∧ Off a tl ∧ (a, o') :: (tl ++ news) = news' ∧ VIn news' r x ∧ GoodV x
theorem RowAt.cls {o : Obj} (h : RowAt o) : o.cls ≠ .type "tuple" := by
  obtain ⟨vs, k, rfl, _⟩ := h
  intro e
  exact absurd (Value.type.inj e) (by decide)
theorem endD {h₀ h' : Heap} {L a : Addr} {o' : Obj} {m : Str → Option Value} {news full : Led} {d : V} {s : Shared} {Q : Value → Shared → Prop} {r : Value} {tk' : Nat}
    (hret : ∀ r news' h' tk', Fr h₀ L h' m → News h₀ L h' news' → PD a news news' r → Q r { s with heap := h', toks := tk' })
    (F : Fr h₀ L h' m) (N : News h₀ L h' full) (S : ∀ p ∈ news, p ∈ full) (hm : (a, o') ∈ full) (ro : RowAt o') (v : VIn full r d) (g : GoodV d) : Q r { s with heap := h', toks := tk' } := by
  have N0 : News h₀ L h' ((a, o') :: news) := fun p hp => by
    rcases List.mem_cons.mp hp with rfl | hp
    · exact N _ hm
    · exact N p (S p hp)
  have nil : VIn ((a, o') :: news) r d → Q r { s with heap := h', toks := tk' } := fun h => hret _ _ _ _ F N0 ⟨o', [], d, ro, fun _ hp => (nomatch hp), Off.nil, rfl, h, g⟩
  cases v with
  | none => exact nil .none
  | some H =>
    rcases H with h | h | ⟨t, u, hmt⟩
    · exact nil (.some (.inl h))
    · exact nil (.some (.inr (.inl h)))
    · rename_i at' n1 d1
      have hT : Tups [(at', ({ cls := .type "tuple", data := .seq #[.int n1 t, .int d1 u] } : Obj))] := fun p hp => by rw [List.mem_singleton.mp hp]
      refine hret _ ((a, o') :: ([(at', _)] ++ news)) _ _ F (fun p hp => ?_) ⟨o', [(at', _)], _, ro, hT, hT.ne N (fun p hp => by rw [List.mem_singleton.mp hp]; exact hmt) hm ro.cls, rfl, .some (.inr (.inr ⟨t, u, .tail _ (.head _)⟩)), g⟩
      rcases List.mem_cons.mp hp with rfl | hp
      · exact N _ hm
      · rcases List.mem_append.mp hp with hp | hp
        · rw [List.mem_singleton.mp hp]; exact N _ hmt
        · exact N p (S p hp)
theorem mod_pos {prog : Program} {w : World} {A : Around} {E : Value → Shared → Prop} {s : Shared} {a b : Int} {t u : Tok} {Q : Value → Shared → Prop} (hb : 0 < b) (h : ∀ r : Int, r = a.fmod b → 0 ≤ r → r < b → ∀ t tk, Q (.int r t) { s with toks := tk }) :
    wpAny (model prog w) A (binaryOp .Mod (.int a t) (.int b u)) Q E s :=
  PyProof.Rows.mod_int' (by omega) (h _ rfl (Int.fmod_nonneg_of_pos a hb) (Int.fmod_lt_of_pos a hb) _ _)
theorem Bd.rng {k : Nat} {c b : Int} (h0 : 0 ≤ c) (h1 : c < b) (hb : b ≤ 2 ^ k) : Bd k c := by
  unfold Bd
  have : ((c.natAbs : Nat) : Int) < ((2 ^ k : Nat) : Int) := by rw [Int.natCast_pow]; exact Int.lt_of_lt_of_le (by omega) hb
  exact Int.ofNat_lt.mp this



theorem list_item2T {prog : Program} {w : World} {A : Around} {E : Value → Shared → Prop} {s : Shared} {h₀ : Heap} {L D a0 a1 : Addr} {full : Led} {k : Nat} {i : Int} {u : Tok} {value slice : PySem.Expr} {Q : Value → Shared → Prop}
    (N : News h₀ L s.heap full) (hm : (D, W.listOf #[.ref a0, .ref a1] k) ∈ full) (T0 : Tp full a0 1 0) (T1 : Tp full a1 (-1) 0) (hi : 0 ≤ i ∧ i < 2) (h : ∀ a n, Tp full a n 0 → (n = 1 ∨ n = -1) → Q (.ref a) s)
    (hs : subscripted slice false (.ref D) (.int i u) = operate [.ref D, .int i u] (getItem (.ref D) (.int i u))) : wpAny (model prog w) A (subscriptTail value slice (.ref D) (.int i u)) Q E s :=
  list_item2 N hm hi (fun _ => h a0 1 T0 (.inl rfl)) (fun _ => h a1 (-1) T1 (.inr rfl)) hs
theorem reg15 : True := by
  k_with "my_off" => (repeat' (first | (with_reducible exact Off.nil) | (with_reducible assumption) | (with_reducible refine Off.cons ?_ ?_) | (with_reducible refine Off.app ?_ ?_) | (show @Ne Nat _ _; omega)))
  k_with "my_pres" => first | (refine' Fn.use (next_at0 ?zzv1 ?zzv2 ?zzv3) ?zzk1 ?zzk2 ?zzk3 ?zzk4 ?zzk5 ?zzk6 ?zzkd ?zzku ?_; (case zzk4 => with_reducible assumption)) | (refine' Fn.use (next_at5 ?zzv1 ?zzv2 ?zzv3) ?zzk1 ?zzk2 ?zzk3 ?zzk4 ?zzk5 ?zzk6 ?zzkd ?zzku ?_; (case zzk4 => with_reducible assumption))
  k_with "z call ref" => (k_here; (with_reducible show wpAny _ _ (call (Value.ref 156) [_]) _ _ _); k_dflt (walk_at "my_pres"; (case zzk1 => k_asm); (case zzk2 => k_asm); (case zzk3 => k_asm); (case zzk5 => k_asm); (case zzv1 => walk_at "my_off"); (case zzv2 => walk_at "my_off"); (case zzv3 => assumption); (case zzk6 => first | exact rfl | assumption); (case zzkd => walk_at "my_room"); (case zzku => walk_at "my_room"); k_whole); intro r9 news9 h9 tk9 F9 N9 P9; k_dflt (obtain ⟨o9, c9, t9, q9, e9, e8, c0, c1⟩ := P9; subst e9; subst e8); (try simp only [List.nil_append, List.cons_append] at N9); (try dsimp only); (try k_fold))
  k_with "my_rng" => first | omega
  k_with "z subscriptTail" => (k_here; (with_reducible show wpAny _ _ (subscriptTail (Expr.List _ _) _ (Value.ref _) (Value.int _ _)) _ _ _); k_dflt (first | (refine' list_item2T ?zzN ?zzm ?zzt0 ?zzt1 ?zzr (fun a9 n9 T9 d9 => ?_) ?zzhs; (case zzN => k_asm); (case zzm => k_mem); (case zzt0 => walk_at "my_tp"); (case zzt1 => walk_at "my_tp"); (case zzr => walk_at "my_rng"); (case zzhs => with_unfolding_all rfl); k_whole) | (refine' list_item4 ?zzN ?zzm ?zzr (fun e9 => ?_) (fun e9 => ?_) (fun e9 => ?_) (fun e9 => ?_) ?zzhs; (case zzN => k_asm); (case zzm => k_mem); (case zzr => walk_at "my_rng"); (case zzhs => with_unfolding_all rfl); k_whole)))
  k_with "z binaryOp Mod int int" => (k_here; (with_reducible show wpAny _ _ (binaryOp _ (Value.int _ _) (Value.int _ _)) _ _ _); k_dflt (refine' mod_pos ?zzhb (fun r9 e9 l9 h9 t9 tk9 => ?_); (case zzhb => first | decide | omega); k_whole); (try dsimp only))
  k_with "my_bs" => exact Bd.rng (k := 20) (by with_reducible assumption) (by with_reducible assumption) (by decide)
  trivial
set_option maxHeartbeats 0 in
theorem double_ok {w : World} {mean : ExcName → Option Value} {mg mb : Str → Option Value} {news : Led} {a : Addr} {o : Obj} (hT : Off a news) (ro : RowAt o) : Fn w mean mg mb 170 4 ((a, o) :: news) [.ref a] (PD a news) := by
  w_on
  unfold Fn
  k_fill
  intro dp un gd cn cs a ccd cl outer A₀ base h₀ L m s Q E B F X N T hk hd hu hret
  refine wpAny_call ?_
  k_dflt ktr_enter
  rename_i g L1 h1 FG1 F1 N1 B1 X1 T1
  k_steps
  all_goals exact endD hret (by k_asm) (by assumption) (by walk_at "my_sub") (by k_mem) (by with_reducible assumption) (by walk_at "my_vin") (by first | exact True.intro | exact good_lit (by omega) | exact good_red (by omega) (by unfold Bd; omega) (by unfold Bd; omega))



noncomputable def vdat : V → PyData
  | none => .none
  | some (n, d) => .tuple [.int n, .int d]
theorem vdat_eqv (x y : V) : PyData.eqv (vdat x) (vdat y) = decide (x = y) := by
  cases x with
  | none => cases y with
    | none => rfl
    | some q => rfl
  | some p =>
    cases y with
    | none => rfl
    | some q =>
      obtain ⟨n, d⟩ := p
      obtain ⟨n', d'⟩ := q
      simp only [vdat, PyData.eqv, PyData.eqvAll, Bool.and_true]
      rw [Bool.eq_iff_iff]
      simp only [Bool.and_eq_true, beq_iff_eq, decide_eq_true_eq, Option.some.injEq, Prod.mk.injEq]
theorem vdat_lay (x : V) : (vdat x).canLay0 = true ∧ (vdat x).depth ≤ 2 := by
  cases x with
  | none => exact ⟨rfl, by decide⟩
  | some p => exact ⟨rfl, by simp [vdat, PyData.depth, PyData.depthAll]⟩
section
variable {P : Params} {h₀ h : Heap} {L : Addr} {m : Str → Option Value} {full : Led}
theorem Tp.reads {a : Addr} {n d : Int} (H : Tp full a n d) (X : (Mine.hd.heap_39 P).In h₀) (F : Fr h₀ L h m) (N : News h₀ L h full) : ∃ as, Reads h (.ref a) (.tuple [.int n, .int d]) as := by
  obtain ⟨t, u, o, ho, hc, k, hd⟩ := H.isTup X F N
  exact ⟨_, reads_tuple_at ho hc hd (.cons (.int n t) (.cons (.int d u) .nil))⟩
theorem VIn.reads {v : Value} {x : V} (H : VIn full v x) (X : (Mine.hd.heap_39 P).In h₀) (F : Fr h₀ L h m) (N : News h₀ L h full) : ∃ as, Reads h v (vdat x) as := by
  cases H with
  | none => exact ⟨_, .none⟩
  | some T => exact T.reads X F N
theorem pair_reads {a : Addr} {v1 v2 : Value} {x1 x2 : V} (hm : (a, ({ cls := .type "tuple", data := .seq #[v1, v2] } : Obj)) ∈ full) (H1 : VIn full v1 x1) (H2 : VIn full v2 x2) (X : (Mine.hd.heap_39 P).In h₀) (F : Fr h₀ L h m) (N : News h₀ L h full) :
    ∃ as, Reads h (.ref a) (.tuple [vdat x1, vdat x2]) as := by
  obtain ⟨as, r1⟩ := H1.reads X F N
  obtain ⟨bs, r2⟩ := H2.reads X F N
  exact ⟨_, reads_tuple_at (N.get hm) rfl rfl (.cons r1 (.cons r2 .nil))⟩
end
section
variable {prog : Program} {P : Params} {w : World} {A : Around} {E : Value → Shared → Prop} {s : Shared} {h₀ : Heap} {L a b : Addr} {m : Str → Option Value} {full : Led} {v u v1 v2 u1 u2 : Value} {x y x1 x2 y1 y2 : V} {n d n' d' : Int} {Q : Value → Shared → Prop}
theorem tp_eq (X : (Mine.hd.heap_39 P).In h₀) (F : Fr h₀ L s.heap m) (N : News h₀ L s.heap full) (hx : Tp full a n d) (hy : Tp full b n' d') (hu : A.units + 8 < cLine) (h : Q (.bool (decide (n = n' ∧ d = d'))) s) : wpAny (model prog w) A (compareOp .Eq (.ref a) (.ref b)) Q E s := by
  obtain ⟨as, ra⟩ := hx.reads X F N
  obtain ⟨bs, rb⟩ := hy.reads X F N
  refine SeqAt.compareEq_reads ra rb rfl rfl ?_ ?_
  · have := min_zero_le (a := (PyData.tuple [.int n, .int d]).depth) (vdat_lay (some (n', d'))).2
    rw [vdat] at this
    omega
  · have e := vdat_eqv (some (n, d)) (some (n', d'))
    rw [vdat, vdat] at e
    rw [e]
    simpa only [Option.some.injEq, Prod.mk.injEq] using h
theorem vin_ne (X : (Mine.hd.heap_39 P).In h₀) (F : Fr h₀ L s.heap m) (N : News h₀ L s.heap full) (hx : VIn full v x) (hy : VIn full u y) (hu : A.units + 8 < cLine) (h : Q (.bool (!decide (x = y))) s) : wpAny (model prog w) A (compareOp .NotEq v u) Q E s := by
  obtain ⟨as, ra⟩ := hx.reads X F N
  obtain ⟨bs, rb⟩ := hy.reads X F N
  refine SeqAt.compareNe_reads ra rb (vdat_lay x).1 (vdat_lay y).1 ?_ (by rw [vdat_eqv]; exact h)
  have := min_zero_le (a := (vdat x).depth) (vdat_lay y).2
  omega
theorem vin_eq (X : (Mine.hd.heap_39 P).In h₀) (F : Fr h₀ L s.heap m) (N : News h₀ L s.heap full) (hx : VIn full v x) (hy : VIn full u y) (hu : A.units + 8 < cLine) (h : Q (.bool (decide (x = y))) s) : wpAny (model prog w) A (compareOp .Eq v u) Q E s := by
  obtain ⟨as, ra⟩ := hx.reads X F N
  obtain ⟨bs, rb⟩ := hy.reads X F N
  refine SeqAt.compareEq_reads ra rb (vdat_lay x).1 (vdat_lay y).1 ?_ (by rw [vdat_eqv]; exact h)
  have := min_zero_le (a := (vdat x).depth) (vdat_lay y).2
  omega
theorem pair_ne (X : (Mine.hd.heap_39 P).In h₀) (F : Fr h₀ L s.heap m) (N : News h₀ L s.heap full) (ma : (a, ({ cls := .type "tuple", data := .seq #[v1, v2] } : Obj)) ∈ full) (mb : (b, ({ cls := .type "tuple", data := .seq #[u1, u2] } : Obj)) ∈ full)
    (h1 : VIn full v1 x1) (h2 : VIn full v2 x2) (h3 : VIn full u1 y1) (h4 : VIn full u2 y2) (hu : A.units + 8 < cLine) (h : Q (.bool (!decide (x1 = y1 ∧ x2 = y2))) s) : wpAny (model prog w) A (compareOp .NotEq (.ref a) (.ref b)) Q E s := by
  obtain ⟨as, ra⟩ := pair_reads ma h1 h2 X F N
  obtain ⟨bs, rb⟩ := pair_reads mb h3 h4 X F N
  refine SeqAt.compareNe_reads ra rb ?_ ?_ ?_ ?_
  · simp only [PyData.canLay0, PyData.canLayAll0, (vdat_lay _).1, Bool.and_self]
  · simp only [PyData.canLay0, PyData.canLayAll0, (vdat_lay _).1, Bool.and_self]
  · have h5 : (PyData.tuple [vdat y1, vdat y2]).depth ≤ 4 := by
      have := (vdat_lay y1).2
      have := (vdat_lay y2).2
      simp only [PyData.depth, PyData.depthAll]
      omega
    have := min_zero_le (a := (PyData.tuple [vdat x1, vdat x2]).depth) h5
    omega
  · have e : PyData.eqv (.tuple [vdat x1, vdat x2]) (.tuple [vdat y1, vdat y2]) = decide (x1 = y1 ∧ x2 = y2) := by
      simp only [PyData.eqv, PyData.eqvAll, vdat_eqv, Bool.and_true]
      rw [Bool.eq_iff_iff]
      simp only [Bool.and_eq_true, decide_eq_true_eq]
    rw [e]; exact h
end
noncomputable def lawDivF (x y : V) : V × V := match x, y with
  | some (a, b), some (c, e) =>
    if (a = 0 ∧ b = 0) ∨ (c = 0 ∧ e = 0) then (some (0, 0), some (0, 0))
    else if c = 0 then (some (if 0 < a then 1 else if a < 0 then -1 else 0, 0), some (0, 0))
    else if b = 0 ∧ e = 0 then (some (0, 0), some (0, 0))
    else if b = 0 then (some (if 0 < c then a else -a, 0), some (0, 0))
    else if e = 0 then (if a * c < 0 then (some (-1, 1), y) else (some (0, 1), x))
    else (some ((a * e).fdiv (b * c), 1), some (red (a * e - (a * e).fdiv (b * c) * c * b) (b * e)))
  | _, _ => (none, none)
def PP (z : V × V) (news news' : Led) (r : Value) : Prop := ∃ tl a v1 v2, tl ++ news = news' ∧ Tups tl ∧ r = .ref a ∧ (a, ({ cls := .type "tuple", data := .seq #[v1, v2] } : Obj)) ∈ news' ∧ VIn news' v1 z.1 ∧ VIn news' v2 z.2
theorem VIn.own {full : Led} {v : Value} {x : V} (h : VIn full v x) : ∃ tl, Tups tl ∧ (∀ p ∈ tl, p ∈ full) ∧ ∀ l : Led, (∀ p ∈ tl, p ∈ l) → VIn l v x := by
  have nil : (∀ l : Led, VIn l v x) → ∃ tl, Tups tl ∧ (∀ p ∈ tl, p ∈ full) ∧ ∀ l : Led, (∀ p ∈ tl, p ∈ l) → VIn l v x := fun h => ⟨[], fun _ hp => (nomatch hp), fun _ hp => (nomatch hp), fun l _ => h l⟩
  cases h with
  | none => exact nil fun _ => .none
  | some H =>
    rcases H with h | h | ⟨t, u, hm⟩
    · exact nil fun _ => .some (.inl h)
    · exact nil fun _ => .some (.inr (.inl h))
    · exact ⟨[(_, _)], fun p hp => by rw [List.mem_singleton.mp hp], fun p hp => by rw [List.mem_singleton.mp hp]; exact hm, fun l hl => .some (.inr (.inr ⟨t, u, hl _ (.head _)⟩))⟩
theorem endP {h₀ h' : Heap} {L a : Addr} {v1 v2 : Value} {m : Str → Option Value} {news full : Led} {x1 x2 : V} {z : V × V} {s : Shared} {Q : Value → Shared → Prop} {tk' : Nat}
    (hret : ∀ r news' h' tk', Fr h₀ L h' m → News h₀ L h' news' → PP z news news' r → Q r { s with heap := h', toks := tk' })
    (F : Fr h₀ L h' m) (N : News h₀ L h' full) (S : ∀ p ∈ news, p ∈ full) (hm : (a, ({ cls := .type "tuple", data := .seq #[v1, v2] } : Obj)) ∈ full) (H1 : VIn full v1 x1) (H2 : VIn full v2 x2) (e : (x1, x2) = z) : Q (.ref a) { s with heap := h', toks := tk' } := by
  subst e
  obtain ⟨t1, T1, s1, k1⟩ := H1.own
  obtain ⟨t2, T2, s2, k2⟩ := H2.own
  refine hret _ (((a, _) :: (t1 ++ t2)) ++ news) _ _ F (fun p hp => ?_) ⟨(a, _) :: (t1 ++ t2), a, v1, v2, rfl, fun p hp => ?_, rfl, List.mem_append.mpr (.inl (.head _)), k1 _ fun p hp => ?_, k2 _ fun p hp => ?_⟩
  · rcases List.mem_append.mp hp with hp | hp
    · rcases List.mem_cons.mp hp with rfl | hp
      · exact N _ hm
      · rcases List.mem_append.mp hp with hp | hp
        · exact N p (s1 p hp)
        · exact N p (s2 p hp)
    · exact N p (S p hp)
  · rcases List.mem_cons.mp hp with rfl | hp
    · rfl
    · rcases List.mem_append.mp hp with hp | hp
      · exact T1 p hp
      · exact T2 p hp
  · exact List.mem_append.mpr (.inl (.tail _ (List.mem_append.mpr (.inl hp))))
  · exact List.mem_append.mpr (.inl (.tail _ (List.mem_append.mpr (.inr hp))))



section
variable {a b c e s : Int}
theorem lawDivF_na (h : (a = 0 ∧ b = 0) ∨ (c = 0 ∧ e = 0)) : (some (0, 0), some (0, 0)) = lawDivF (some (a, b)) (some (c, e)) := by unfold lawDivF; dsimp only; rw [if_pos h]
theorem lawDivF_c (h : ¬ ((a = 0 ∧ b = 0) ∨ (c = 0 ∧ e = 0)) ∧ c = 0 ∧ ((0 < a ∧ s = 1) ∨ (a < 0 ∧ s = -1) ∨ (a = 0 ∧ s = 0))) : (some (s, 0), some (0, 0)) = lawDivF (some (a, b)) (some (c, e)) := by
  have e1 : s = if 0 < a then 1 else if a < 0 then -1 else 0 := by omega
  unfold lawDivF; dsimp only; rw [if_neg h.1, if_pos h.2.1, e1]
theorem lawDivF_tt (h : ¬ ((a = 0 ∧ b = 0) ∨ (c = 0 ∧ e = 0)) ∧ c ≠ 0 ∧ b = 0 ∧ e = 0) : (some (0, 0), some (0, 0)) = lawDivF (some (a, b)) (some (c, e)) := by unfold lawDivF; dsimp only; rw [if_neg h.1, if_neg h.2.1, if_pos h.2.2]
theorem lawDivF_b (h : ¬ ((a = 0 ∧ b = 0) ∨ (c = 0 ∧ e = 0)) ∧ c ≠ 0 ∧ b = 0 ∧ e ≠ 0 ∧ ((0 < c ∧ s = a) ∨ (¬ 0 < c ∧ s = -a))) : (some (s, 0), some (0, 0)) = lawDivF (some (a, b)) (some (c, e)) := by
  have e1 : s = if 0 < c then a else -a := by omega
  unfold lawDivF; dsimp only; rw [if_neg h.1, if_neg h.2.1, if_neg (fun x => h.2.2.2.1 x.2), if_pos h.2.2.1, e1]
theorem lawDivF_eN (h : ¬ ((a = 0 ∧ b = 0) ∨ (c = 0 ∧ e = 0)) ∧ c ≠ 0 ∧ b ≠ 0 ∧ e = 0 ∧ a * c < 0) : (some (-1, 1), some (c, e)) = lawDivF (some (a, b)) (some (c, e)) := by
  unfold lawDivF; dsimp only; rw [if_neg h.1, if_neg h.2.1, if_neg (fun x => h.2.2.1 x.1), if_neg h.2.2.1, if_pos h.2.2.2.1, if_pos h.2.2.2.2]
theorem lawDivF_eP (h : ¬ ((a = 0 ∧ b = 0) ∨ (c = 0 ∧ e = 0)) ∧ c ≠ 0 ∧ b ≠ 0 ∧ e = 0 ∧ ¬ a * c < 0) : (some (0, 1), some (a, b)) = lawDivF (some (a, b)) (some (c, e)) := by
  unfold lawDivF; dsimp only; rw [if_neg h.1, if_neg h.2.1, if_neg (fun x => h.2.2.1 x.1), if_neg h.2.2.1, if_pos h.2.2.2.1, if_neg h.2.2.2.2]
theorem lawDivF_ok (h : ¬ ((a = 0 ∧ b = 0) ∨ (c = 0 ∧ e = 0)) ∧ c ≠ 0 ∧ b ≠ 0 ∧ e ≠ 0) : (some ((a * e).fdiv (b * c), 1), some (red (a * e - (a * e).fdiv (b * c) * c * b) (b * e))) = lawDivF (some (a, b)) (some (c, e)) := by
  unfold lawDivF; dsimp only; rw [if_neg h.1, if_neg h.2.1, if_neg (fun x => h.2.2.1 x.1), if_neg h.2.2.1, if_neg h.2.2.2]
end
theorem reg16 : True := by
  k_with "z compareOp Eq ref ref" => (k_here; (with_reducible show wpAny _ _ (compareOp CmpOp.Eq (Value.ref _) (Value.ref _)) _ _ _); k_dflt (refine' tp_eq ?zzX ?zzF ?zzN ?zza ?zzb ?zzhu ?_; (case zzF => k_asm); (case zzN => k_asm); (case zzX => k_asm); (case zza => walk_at "my_tp"); (case zzb => walk_at "my_tp"); (case zzhu => walk_at "my_room"); k_whole))
  trivial
set_option maxHeartbeats 0 in
theorem divided_ok {w : World} {mean : ExcName → Option Value} {mg mb : Str → Option Value} {news : Led} {v u : Value} {x y : V} (hv : VIn news v x) (hu : VIn news u y) (gx : GoodV x) (gy : GoodV y) : Fn w mean mg mb 177 4 news [v, u] (PP (lawDivF x y) news) := by
  cases hv with
  | none =>
    w_on
    unfold Fn
    k_fill
    intro dp un gd cn cs a ccd cl outer A₀ base h₀ L m s Q E B F X N T hk hd hu hret
    refine wpAny_call ?_
    k_dflt ktr_enter
    rename_i g L1 h1 FG1 F1 N1 B1 X1 T1
    k_steps
    all_goals exact endP hret (by k_asm) (by assumption) (by walk_at "my_sub") (by k_mem) (by walk_at "my_vin") (by walk_at "my_vin") (by rfl)
  | some H =>
    cases hu with
    | none =>
      w_on
      unfold Fn
      k_fill
      intro dp un gd cn cs a ccd cl outer A₀ base h₀ L m s Q E B F X N T hk hd hu hret
      refine wpAny_call ?_
      k_dflt ktr_enter
      rename_i g L1 h1 FG1 F1 N1 B1 X1 T1
      k_steps
      all_goals exact endP hret (by k_asm) (by assumption) (by walk_at "my_sub") (by k_mem) (by walk_at "my_vin") (by walk_at "my_vin") (by rfl)
    | some H2 =>
      obtain ⟨b1, b2, g1⟩ := gx
      obtain ⟨b3, b4, g2⟩ := gy
      w_on
      unfold Fn
      k_fill
      intro dp un gd cn cs a ccd cl outer A₀ base h₀ L m s Q E B F X N T hk hd hu hret
      refine wpAny_call ?_
      k_dflt ktr_enter
      rename_i g L1 h1 FG1 F1 N1 B1 X1 T1
      k_steps
      all_goals exact endP hret (by k_asm) (by assumption) (by walk_at "my_sub") (by k_mem) (by walk_at "my_vin") (by walk_at "my_vin") (by first | exact lawDivF_na (by omega) | exact lawDivF_c (by omega) | exact lawDivF_tt (by omega) | exact lawDivF_b (by omega) | exact lawDivF_eN (by omega) | exact lawDivF_eP (by omega) | exact lawDivF_ok (by omega) | (exfalso; omega))



noncomputable def nearB (n d p q un ud : Int) : Bool :=
  decide ((p * ud).fmod (q * un) = 0 ∧ ((if n * q - p * d < 0 then -(n * q - p * d) else n * q - p * d) * 2 * ud < d * q * un ∨
    ((if n * q - p * d < 0 then -(n * q - p * d) else n * q - p * d) * 2 * ud = d * q * un ∧ ((p * ud).fdiv (q * un)).fmod 2 = 0)))
set_option maxHeartbeats 0 in
theorem nearest_ok {w : World} {mean : ExcName → Option Value} {mg mb : Str → Option Value} {news : Led} {a b : Addr} {n d p q un ud : Int} {t u : Tok} (H : Tp news a n d) (H2 : Tp news b p q) (hq : 0 < q) (hun : 0 < un) (b1 : Bd 1000 n) (b2 : Bd 1000 d) (b3 : Bd 1000 p) (b4 : Bd 1000 q) (b5 : Bd 1000 un) (b6 : Bd 1000 ud) : Fn w mean mg mb 184 2 news [.ref a, .ref b, .int un t, .int ud u] (PB news (fun r => r = .bool (nearB n d p q un ud))) := by
  w_on
  unfold Fn
  k_fill
  intro dp un gd cn cs a ccd cl outer A₀ base h₀ L m s Q E B F X N T hk hd hu hret
  refine wpAny_call ?_
  k_dflt ktr_enter
  rename_i g L1 h1 FG1 F1 N1 B1 X1 T1
  k_steps
  all_goals exact endB hret (by k_asm) (by assumption) (by walk_at "my_sub") (by refine congrArg Value.bool (Bool.eq_iff_iff.mpr ?_); unfold nearB; simp only [decide_eq_true_eq, beq_iff_eq, Bool.false_eq_true, false_iff]; omega)



def RowV (vs : List Value) : Prop := ∀ v ∈ vs, ∃ c t, v = Value.int c t ∧ 0 ≤ c ∧ c < 1024
theorem RowV.snoc {us : List Value} {c : Int} {t : Tok} (h : RowV us) (h0 : 0 ≤ c) (h1 : c < 1024) : RowV (us ++ [Value.int c t]) := fun v hv => by
  rcases List.mem_append.mp hv with hv | hv
  · exact h v hv
  · rw [List.mem_singleton.mp hv]; exact ⟨c, t, rfl, h0, h1⟩
section
variable {prog : Program} {w : World} {A : Around} {E : Value → Shared → Prop} {s : Shared} {h₀ : Heap} {L D rw : Addr} {m : Str → Option Value} {rest : Led} {us : List Value} {x : Value} {k : Nat} {oD : Obj} {Q : Value → Shared → Prop}
theorem row_append (F : Fr h₀ L s.heap m) (N : News h₀ L s.heap ((D, oD) :: (rw, W.listOf us.toArray k) :: rest)) (hD : D ≠ rw) (hr : Off rw rest) (hz : us.length ≤ 2000)
    (h : ∀ h', Fr h₀ L h' m → News h₀ L h' ((D, oD) :: (rw, W.listOf (us ++ [x]).toArray (k + 1)) :: rest) → Q .none { s with heap := h' }) : wpAny (model prog w) A (call (.builtin "list.append") [.ref rw, x]) Q E s := by
  refine append_K F N (.tail hD (.head hr)) (fun h' F' N' => h h' F' ?_) (by rw [List.size_toArray]; exact Nat.le_trans hz (by decide))
  simpa using N'
end
section
variable {prog : Program} {w : World} {A : Around} {E : Value → Shared → Prop} {s : Shared} {env : Env} {h₀ : Heap} {x : Str} {body : List Stmt} {Q : Flow → Shared → Prop}
theorem range_iter {r : Addr} {b₀ : Int} {t₀ u₀ v₀ : Tok} {n : Nat} {m₀ : Str → Option Value} {news : Led} (J : Nat → (Str → Option Value) → Led → Prop)
    (hh : A.handled = none) (hr : IsRange s.heap r 0 b₀ 1 t₀ u₀ v₀) (hsmall : Builtin.Range.small 0 b₀ 1 = true) (hsz : Builtin.Range.rangeSize 0 b₀ 1 = (n : Int)) (F : Fr h₀ env.locals s.heap m₀) (N : News h₀ env.locals s.heap news) (hj : J 0 m₀ news)
    (turn : ∀ i v m₁ nx h tk own, i < n → OwnOff own (nx.map (·.1)) → J i m₁ nx → Fr h₀ env.locals h (fun y => if y = x then some v else m₁ y) → News h₀ env.locals h (nx ++ own) →
      wpAny (model prog w) A (execs body env) (InvPostG h₀ env.locals (J (i + 1)) own { s with heap := h, toks := tk } Q) E { s with heap := h, toks := tk })
    (done : ∀ m₁ nx h tk, J n m₁ nx → Fr h₀ env.locals h m₁ → News h₀ env.locals h nx → Q .next { s with heap := h, toks := tk }) :
    wpAny (model prog w) A (pyIter (.ref r)) (fun it s₂ => LoopAtV prog w A h₀ env x body Q E it s₂) E s := by
  refine wpAny_pyIter_range hr hsmall ?_
  have W : Walks prog w A s.heap.objs.size [s.heap.objs.size] [s.heap.objs.size] n (fun i v => i < n ∧ ∃ t, v = .int (0 + i * 1) t)
      (fun i h => IsRangeIter h s.heap.objs.size (0 + (i : Nat) * 1) ((n : Int) - (i : Nat)) 1) := (Walks.range hh _ 0 1 n).bound
  refine kdr_loop J W (fun _ h => h) (fun _ h => h) ?_ ?_ ?_ ?_ (by show IsRangeIter _ _ _ _ _; rw [hsz]; simpa using Heap.get?_push_size _ rfl) (F.push _) (fun p hp => ⟨Heap.get?_push_of_some _ (N p hp).1, (N p hp).2⟩) hj ?_ done
  · intro i h hi b hb
    rw [List.mem_singleton.mp hb]
    exact ⟨_, hi⟩
  · intro hm
    exact absurd F.ns.lt ((List.mem_singleton.mp hm) ▸ Nat.lt_irrefl _)
  · intro b hb
    rw [List.mem_singleton.mp hb]
    exact next_is_new F
  · intro p hp hI
    exact absurd (Heap.lt_size (N p hp).1) ((List.mem_singleton.mp hI) ▸ Nat.lt_irrefl _)
  · rintro i v m₁ nx h tk own hi _ hoff hJ F₁ N₁
    exact turn i v m₁ nx h tk own hi hoff hJ F₁ N₁
end
section
variable {a b : Addr × Obj} {own own2 : Led}
theorem mem2a : ∀ p ∈ a :: b :: own, p ∈ a :: b :: (own ++ own2) := fun p hp => by
  rcases List.mem_cons.mp hp with rfl | hp
  · exact .head _
  rcases List.mem_cons.mp hp with rfl | hp
  · exact .tail _ (.head _)
  · exact .tail _ (.tail _ (List.mem_append.mpr (.inl hp)))
theorem mem2b : ∀ p ∈ own2, p ∈ a :: b :: (own ++ own2) := fun _ hp => .tail _ (.tail _ (List.mem_append.mpr (.inr hp)))
theorem mem2c : ∀ p ∈ [a, b], p ∈ a :: b :: own := fun p hp => by
  rcases List.mem_cons.mp hp with rfl | hp
  · exact .head _
  rw [List.mem_singleton.mp hp]; exact .tail _ (.head _)
theorem mem2d : ∀ p ∈ own, p ∈ a :: b :: own := fun _ hp => .tail _ (.tail _ hp)
end
theorem RowV.ints : ∀ {vs : List Value}, RowV vs → ∃ ns, IntsAre vs ns ∧ ∀ n ∈ ns, 0 ≤ n ∧ n < 1024
  | [], _ => ⟨[], .nil, fun _ h => nomatch h⟩
  | v :: vs, h => by
    obtain ⟨c, t, rfl, h0, h1⟩ := h v (.head _)
    obtain ⟨ns, hi, hl⟩ := RowV.ints (vs := vs) fun u hu => h u (.tail _ hu)
    refine ⟨c :: ns, .cons c t hi, fun n hn => ?_⟩
    rcases List.mem_cons.mp hn with rfl | hn
    · exact ⟨h0, h1⟩
    · exact hl n hn
theorem RowV.of : ∀ {vs : List Value} {ns : List Int}, IntsAre vs ns → (∀ n ∈ ns, 0 ≤ n ∧ n < 1024) → RowV vs
  | _, _, .nil, _ => fun _ h => nomatch h
  | _, _, .cons c t hi, h => fun v hv => by
    rcases List.mem_cons.mp hv with rfl | hv
    · exact ⟨c, t, rfl, h c (.head _)⟩
    · exact RowV.of hi (fun n hn => h n (.tail _ hn)) v hv
theorem row_cut {us : List Value} (h : RowV us) : RowL ((slicePick us.toArray none (some 160) none).toList.reverse) := by
  obtain ⟨ns, hi, hr⟩ := h.ints
  have hs := kmk_upto hi (y := 160) (by decide)
  have hv := RowV.of hs fun n hn => hr n (List.mem_of_mem_take hn)
  refine ⟨?_, fun v hv' => hv v (List.mem_reverse.mp hv')⟩
  rw [List.length_reverse, hs.length]
  exact List.length_take_le _ _
theorem row_reverse {prog : Program} {w : World} {A : Around} {E : Value → Shared → Prop} {s : Shared} {h₀ : Heap} {L D : Addr} {m : Str → Option Value} {full : Led} {us : List Value} {Q : Value → Shared → Prop} (F : Fr h₀ L s.heap m) (N : News h₀ L s.heap full) (hm : (D, ({ cls := .type "list", data := .seq (slicePick us.toArray none (some 160) none) } : Obj)) ∈ full) (hv : RowV us)
    (h : ∀ h' o, Fr h₀ L h' m → News h₀ L h' [(D, o)] → RowAt o → Q .none { s with heap := h' }) : wpAny (model prog w) A (call (.builtin "list.reverse") [.ref D]) Q E s := by
  have hr := row_cut hv
  refine kl_reverse (its := slicePick us.toArray none (some 160) none) (n := 0) F (fun p hp => N p (by rw [List.mem_singleton.mp hp]; exact hm)) rfl (.head (fun _ hp => by cases hp)) (Nat.le_trans (by rw [← List.length_reverse]; exact hr.1) (by decide)) fun h' F' N' => h h' _ F' N' ⟨_, 0, rfl, hr⟩



section
theorem reg17 : True := by
  k_with "z exec For Name Subscript cons nil" => (refine Stop.mk ?_)
  k_with "z exec For Name Call cons nil" => (refine Stop.mk ?_)
  k_with "z call builtin:list.append" => (k_here; (with_reducible show wpAny _ _ (call (Value.builtin "list.append") _) _ _ _); k_dflt (refine' row_append ?zzF ?zzN ?zzD ?zzr ?zzz ?_; (case zzF => k_asm); (case zzN => with_reducible assumption); (case zzD => with_reducible assumption); (case zzr => with_reducible assumption); (case zzz => omega); k_whole); intro h' F' N')
  k_with "z binaryOp Mod int int" => (k_here; (with_reducible show wpAny _ _ (binaryOp _ (Value.int _ _) (Value.int _ _)) _ _ _); k_dflt (refine' mod_pos ?zzhb (fun r9 e9 l9 h9 t9 tk9 => ?_); (case zzhb => first | decide | omega); k_whole); (try dsimp only))
  k_with "z pyIter ref" => (refine Stop.mk ?_)
  trivial
/-- what _law_row leaves, on an empty ledger -/
def PR (news' : Led) (r : Value) : Prop := ∃ a o, RowAt o ∧ [(a, o)] = news' ∧ r = .ref a
set_option maxHeartbeats 0 in
theorem lrow_ok {w : World} {mean : ExcName → Option Value} {mg mb : Str → Option Value} {sl : Addr} {vs : List Value} {ns : List Int} (hi : IntsAre vs ns) (hlen : ns.length ≤ 63) :
  ∀ (dp un : Nat) (gd : Option (List Code)) (cn : Str) (cs : Scope) (a : Addr) (ccd : Value) (cl : List (Str × Addr)) (outer : List Env) (A₀ : Around) (base h₀ : Heap) (L : Addr) (m : Str → Option Value) (s : Shared)
    (Q E : Value → Shared → Prop),
    Below A₀ base outer h₀ → Fr h₀ L s.heap m → (Mine.hd.heap_39 w.params).In h₀ → News h₀ L s.heap [] → Top Mine.hd.view_39 (looseW Mine.hd.view_39 []) mean mg mb h₀ → cs.kind = .function → h₀.IsList sl vs.toArray → dp + 3 < recursionLimit → un + 8 * 3 < cLine →
    (∀ r news' h' tk', Fr h₀ L h' m → News h₀ L h' news' → PR news' r → Q r { s with heap := h', toks := tk' }) →
    wpAny (model PySem.Challenge.rw_nz0466_01.row.prog w) (ktrTop dp un gd cn cs L a ccd cl outer) (call (.ref 149) [.ref sl]) Q E s := by
  w_on
  k_fill
  intro dp un gd cn cs a ccd cl outer A₀ base h₀ L m s Q E B F X N T hk hsl hd hu hret
  have hst : h₀.StaysIn h₀ := fun _ _ e => e
  refine wpAny_call ?_
  k_dflt ktr_enter
  rename_i g L1 h1 FG1 F1 N1 B1 X1 T1
  have hsl1 : g.IsList sl vs.toArray := hsl.at fun o e => FG1.keep sl o e
  k_steps
  unfold Stop
  rename Fr g _ _ _ => F2
  with_unfolding_all refine For_invVF F2 (by rfl) (by rfl) ?_
  k_steps
  unfold Stop
  rename Fr g _ _ _ => F3
  rename News g _ _ _ => N3
  rename_i rw _ _ _ D ws _ hI _ _ _
  refine iter_invNL (env := envOf _ _ _ _ _) (fun i m nx => ∃ us k, nx = [(D, W.listOf ws.toArray 0), (rw, W.listOf us.toArray k)] ∧ m "row" = some (.ref rw) ∧ us.length ≤ 31 * i ∧ RowV us) rfl (.head _) hI F3 N3 ⟨[], 0, rfl, rfl, by simp, fun _ h => nomatch h⟩ ?_ ?_
  · rintro i n t m₁ nx h tk own hn hadr hoff hl ⟨us, k, rfl, e1, hlen', hv⟩ F4 N4
    replace F4 := frPut2 (x := Str.ofString "cell") (y := Str.ofString "row") F4 rfl e1
    simp only [List.cons_append, List.nil_append] at N4
    have hi40 : i < 40 := by
      have := (List.getElem?_eq_some_iff.mp hn).1
      rw [List.length_take] at this
      omega
    have hor : Off rw own := fun p hp => hoff.ne (by simp) p hp
    have hDr : D ≠ rw := by first | omega | exact Nat.ne_of_gt (by assumption)
    k_steps
    all_goals (
      unfold Stop
      rename Fr g _ _ _ => F5
      rename News g _ _ _ => N5
      with_unfolding_all refine For_invVF F5 (by rfl) (by rfl) ?_
      k_steps
      unfold Stop
      rename IsRange _ _ _ _ _ _ _ _ => hR
      rename Fr g _ _ _ => F6
      rename News g _ _ _ => N6
      refine range_iter (env := envOf _ _ _ _ _) (n := 30) (fun b m nx => ∃ us' k' fig, nx = (D, W.listOf ws.toArray 0) :: (rw, W.listOf us'.toArray k') :: own ∧ m "row" = some (.ref rw) ∧ (∃ t, m "figure" = some (.int fig t)) ∧ us'.length ≤ 31 * i + 1 + b ∧ RowV us') rfl hR (by rfl) (by rfl) F6 N6 ⟨_, _, _, rfl, rfl, ⟨_, rfl⟩, by simp; omega, hv.snoc (by assumption) (by assumption)⟩ ?_ ?_
      · rintro b vl m₂ nx h2 tk2 own2 hb hoff2 ⟨us2, k2, fig, rfl, e2, ⟨tf, e3⟩, hlen2, hv2⟩ F7 N7
        replace F7 := frPut3 (x := Str.ofString "lap") (y := Str.ofString "row") (z := Str.ofString "figure") F7 rfl e2 e3
        simp only [List.cons_append] at N7
        have hor2 : Off rw (own ++ own2) := hor.app (fun p hp => hoff2.ne (by simp) p hp)
        clear F6 N6
        k_steps
        all_goals (
          rename Fr g _ _ _ => F8
          rename News g _ _ _ => N8
          exact ⟨_, _, _, _, (D, W.listOf ws.toArray 0) :: (rw, _) :: own, rfl, F8, N8, mem2a, mem2b, hoff2, _, _, _, rfl, rfl, ⟨_, rfl⟩, (by first | omega | (simp only [List.length_append, List.length_cons, List.length_nil]; omega)), (by first | exact hv2 | exact hv2.snoc (by assumption) (by assumption))⟩)
      · rintro m₂ nx h2 tk2 ⟨us2, k2, fig, rfl, e2, _, hlen2, hv2⟩ F7 N7
        clear F6 N6
        k_steps
        exact ⟨_, _, _, _, [(D, W.listOf ws.toArray 0), (rw, _)], rfl, F7, N7, mem2c, mem2d, rfl, .head _, us2, k2, rfl, e2, by omega, hv2⟩)
  · rintro m₁ nx h tk hl ⟨us, k, rfl, e1, hlen', hv⟩ F4 N4
    replace F4 := frPut e1 F4
    have hlu : us.length ≤ 1240 := by
      have := List.length_take_le 40 ns
      omega
    clear F3 N3
    k_steps
    rename Fr g _ _ _ => F5
    rename News g _ _ _ => N5
    refine row_reverse F5 N5 (.head _) hv fun h' o' F6 N6 ro => ?_
    clear F5 N5 F4 N4
    k_steps
    exact hret _ _ _ _ (by k_asm) (by assumption) ⟨_, o', ro, rfl, rfl⟩
end

theorem reg18 : True := by
  k_with_none
  k_with "my_tp" => first | (with_reducible assumption) | (with_reducible refine Tp.mono ?zzs9 (by with_reducible assumption); (case zzs9 => walk_at "my_sub")) | exact Or.inl ⟨rfl, rfl, rfl⟩ | exact Or.inr (Or.inl ⟨rfl, rfl, rfl⟩) | exact Or.inr (Or.inr ⟨_, _, by kcj_m⟩)
  k_with "my_vin" => first | (with_reducible assumption) | (with_reducible exact VIn.none) | ((with_reducible apply VIn.some) <;> walk_at "my_tp") | (with_reducible refine VIn.mono ?zzs9 (by with_reducible assumption); (case zzs9 => walk_at "my_sub"))
  k_with "my_bs" => first | (with_reducible assumption) | ((with_reducible apply Bd.mul) <;> walk_at "my_bs") | ((with_reducible apply Bd.add) <;> walk_at "my_bs") | ((with_reducible apply Bd.neg') <;> walk_at "my_bs") | ((with_reducible apply Bd.sub) <;> walk_at "my_bs") | ((with_reducible apply Bd.neg) <;> walk_at "my_bs") | ((with_reducible apply Bd.abs) <;> walk_at "my_bs") | ((with_reducible apply Bd.fdiv) <;> walk_at "my_bs") | ((with_reducible apply Bd.near) <;> walk_at "my_bs") | ((with_reducible apply Bd.pow10); omega) | exact (show Bd 40 _ from by unfold Bd; decide)
  k_with "my_vs" => first | (with_reducible assumption) | (with_reducible exact VB.none) | ((with_reducible apply VB.neg) <;> walk_at "my_vs") | ((with_reducible apply VB.mul) <;> walk_at "my_vs") | ((with_reducible apply VB.div) <;> walk_at "my_vs") | ((with_reducible apply VB.floor) <;> walk_at "my_vs")
  k_with "z exec While Compare cons nil" => (refine Stop.mk ?_)
  k_with "z WhlIf" => (refine WhlIf.split (fun hc => ?_) (fun hc => ?_) <;> (simp only [decide_eq_true_eq, decide_eq_false_iff_not] at hc))
  k_with "my_pe" => first | passes_own | with_unfolding_all passes_own
  k_with "my_sub" => (repeat' (first | (with_reducible exact fun _ h => h) | (with_reducible refine sub_cons ?_) | (with_reducible refine sub_app ?_)))
  k_with "z subscriptTail Name Constant ref int" => (k_here; (with_reducible show wpAny _ _ (subscriptTail _ _ (Value.ref _) (Value.int _ _)) _ _ _); k_dflt (refine' tp_item ?zzH ?zzX ?zzF ?zzN ?zzhk ?_ ?zzhs; (case zzF => k_asm); (case zzN => k_asm); (case zzX => k_asm); (case zzH => walk_at "my_tp"); (case zzhk => first | exact Or.inl ⟨rfl, rfl⟩ | exact Or.inr ⟨rfl, rfl⟩); (case zzhs => with_unfolding_all rfl); k_whole; intro t9 tk9); (try dsimp only))
  k_with "my_steps" => (repeat' (first | (k_unfold; (try dsimp only)) | walk1 | (dsimp only; first | (k_unfold; (try dsimp only)) | walk1)))
  k_with "my_bool" => (refine congrArg Value.bool (Bool.eq_iff_iff.mpr ?_); (try simp only [isNa, isFin, beq_iff_eq, bne_iff_ne, decide_eq_true_eq, decide_eq_false_iff_not, Bool.and_eq_true, Bool.or_eq_true, Bool.not_eq_true', Bool.false_eq_true, true_iff, false_iff, iff_true, iff_false]); all_goals omega)
  k_with "my_room" => ((try dsimp only [ktrTop, Around.deeper]); omega)
  k_with "my_int" => omega
  k_with "my_bd" => exact Bd.le (by walk_at "my_bs") (by decide)
  k_with "my_nz" => first | decide | omega | (apply Int.mul_ne_zero <;> omega)
  k_with "z binaryOp FloorDiv int int" => (k_here; (with_reducible show wpAny _ _ (binaryOp _ (Value.int _ _) (Value.int _ _)) _ _ _); k_dflt (refine' fdiv_tk ?zzhb ?_ ?zzhp; (case zzhb => walk_at "my_nz"); (case zzhp => exact noPy (by walk_at "my_bs") (by decide)); k_whole; intro t9 tk9); (try dsimp only))
  k_with "z binaryOp Mod int int" => (k_here; (with_reducible show wpAny _ _ (binaryOp _ (Value.int _ _) (Value.int _ _)) _ _ _); k_dflt (refine' mod_tk ?zzhb ?_; (case zzhb => walk_at "my_nz"); k_whole; intro t9 tk9); (try dsimp only))
  k_with "z binaryOp Mult int int" => (k_here; (with_reducible show wpAny _ _ (binaryOp _ (Value.int _ _) (Value.int _ _)) _ _ _); k_dflt (refine' mul_tk ?_ ?zzhm; (case zzhm => exact mulOk (by walk_at "my_bs") (by walk_at "my_bs") (by decide) (by decide)); k_whole; intro t9 tk9); (try dsimp only))
  k_with "z eval Call Name cons nil" => (k_here; (with_reducible show wpAny _ _ (eval (Expr.Call (Expr.Name _ _) _ [] _) _) _ _ _); refine Call_ ?_)
  k_with "my_vb" => exact VB.le (by walk_at "my_vs") (by decide)
  k_with "my_pos" => first | omega | exact pow10_pos | (apply Int.mul_pos <;> walk_at "my_pos")
  k_with "z binaryOp Pow int int" => (k_here; (with_reducible show wpAny _ _ (binaryOp _ (Value.int _ _) (Value.int _ _)) _ _ _); k_dflt (refine' PyProof.Rows.pow_int ?zzhn ?zzhsz ?_; (case zzhn => omega); (case zzhsz => ((try simp only [show Builtin.Int.intBits 10 = 4 from by decide]); omega)); k_whole))
  k_with "my_go" => k_steps
  k_with "z eval Constant int" => (k_here; (with_reducible refine' const_tk ?_); intro t9 tk9; (try dsimp only))
  k_with "z binaryOp Add int int" => (k_here; (with_reducible show wpAny _ _ (binaryOp _ (Value.int _ _) (Value.int _ _)) _ _ _); k_dflt (refine' add_tk ?_; k_whole; intro t9 tk9); (try dsimp only))
  k_with "z binaryOp Sub int int" => (k_here; (with_reducible show wpAny _ _ (binaryOp _ (Value.int _ _) (Value.int _ _)) _ _ _); k_dflt (refine' sub_tk ?_; k_whole; intro t9 tk9); (try dsimp only))
  k_with "z call ref" => (k_here; (with_reducible show wpAny _ _ (call (Value.ref 23) [_, _]) _ _ _); k_dflt (refine' Fn.use (gcd_ok ?zzv1 ?zzv2 ?zzv3) ?zzk1 ?zzk2 ?zzk3 ?zzk4 ?zzk5 ?zzk6 ?zzkd ?zzku ?_; (case zzk1 => k_asm); (case zzk2 => k_asm); (case zzk4 => k_asm); (case zzk3 => k_asm); (case zzk5 => k_asm); (case zzv1 => walk_at "my_int"); (case zzv2 => walk_at "my_int"); (case zzv3 => walk_at "my_bs"); (case zzk6 => first | exact rfl | assumption); (case zzkd => walk_at "my_room"); (case zzku => walk_at "my_room"); k_whole); intro r9 news9 h9 tk9 F9 N9 P9; k_dflt (obtain ⟨e9, c9, t9, e8, q9⟩ := P9; subst e9; subst e8; (try (obtain ⟨q9a, q9b, q9c⟩ := q9))); (try dsimp only); (try k_fold))
  k_with "z call ref" => (k_here; (with_reducible show wpAny _ _ (call (Value.ref 44) [_]) _ _ _); k_dflt (refine' Fn.use (is_finite_ok ?zzv1) ?zzk1 ?zzk2 ?zzk3 ?zzk4 ?zzk5 ?zzk6 ?zzkd ?zzku ?_; (case zzk1 => k_asm); (case zzk2 => k_asm); (case zzk4 => k_asm); (case zzk3 => k_asm); (case zzk5 => k_asm); (case zzv1 => walk_at "my_vin"); (case zzk6 => first | exact rfl | assumption); (case zzkd => walk_at "my_room"); (case zzku => walk_at "my_room"); k_whole); intro r9 news9 h9 tk9 F9 N9 P9; k_dflt (obtain ⟨e9, e8⟩ := P9; subst e9; subst e8); (try dsimp only); (try k_fold))
  k_with "z call ref" => (k_here; (with_reducible show wpAny _ _ (call (Value.ref 37) [(Value.ref _)]) _ _ _); k_dflt (refine' Fn.use (is_na_some ?zzv1) ?zzk1 ?zzk2 ?zzk3 ?zzk4 ?zzk5 ?zzk6 ?zzkd ?zzku ?_; (case zzk1 => k_asm); (case zzk2 => k_asm); (case zzk4 => k_asm); (case zzk3 => k_asm); (case zzk5 => k_asm); (case zzv1 => walk_at "my_tp"); (case zzk6 => first | exact rfl | assumption); (case zzkd => walk_at "my_room"); (case zzku => walk_at "my_room"); k_whole); intro r9 news9 h9 tk9 F9 N9 P9; k_dflt (obtain ⟨e9, e8⟩ := P9; subst e9; subst e8); (try dsimp only); (try k_fold))
  k_with "z call ref" => (k_here; (with_reducible show wpAny _ _ (call (Value.ref 37) [Value.none]) _ _ _); k_dflt (refine' Fn.use (is_na_none ) ?zzk1 ?zzk2 ?zzk3 ?zzk4 ?zzk5 ?zzk6 ?zzkd ?zzku ?_; (case zzk1 => k_asm); (case zzk2 => k_asm); (case zzk4 => k_asm); (case zzk3 => k_asm); (case zzk5 => k_asm); (case zzk6 => first | exact rfl | assumption); (case zzkd => walk_at "my_room"); (case zzku => walk_at "my_room"); k_whole); intro r9 news9 h9 tk9 F9 N9 P9; k_dflt (obtain ⟨e9, e8⟩ := P9; subst e9; subst e8); (try dsimp only); (try k_fold))
  k_with "z call ref" => (k_here; (with_reducible show wpAny _ _ (call (Value.ref 44) [(Value.ref _)]) _ _ _); k_dflt (refine' Fn.use (is_finite_some ?zzv1) ?zzk1 ?zzk2 ?zzk3 ?zzk4 ?zzk5 ?zzk6 ?zzkd ?zzku ?_; (case zzk1 => k_asm); (case zzk2 => k_asm); (case zzk4 => k_asm); (case zzk3 => k_asm); (case zzk5 => k_asm); (case zzv1 => walk_at "my_tp"); (case zzk6 => first | exact rfl | assumption); (case zzkd => walk_at "my_room"); (case zzku => walk_at "my_room"); k_whole); intro r9 news9 h9 tk9 F9 N9 P9; k_dflt (obtain ⟨e9, e8⟩ := P9; subst e9; subst e8); (try dsimp only); (try k_fold))
  k_with "z call ref" => (k_here; (with_reducible show wpAny _ _ (call (Value.ref 44) [Value.none]) _ _ _); k_dflt (refine' Fn.use (is_finite_none ) ?zzk1 ?zzk2 ?zzk3 ?zzk4 ?zzk5 ?zzk6 ?zzkd ?zzku ?_; (case zzk1 => k_asm); (case zzk2 => k_asm); (case zzk4 => k_asm); (case zzk3 => k_asm); (case zzk5 => k_asm); (case zzk6 => first | exact rfl | assumption); (case zzkd => walk_at "my_room"); (case zzku => walk_at "my_room"); k_whole); intro r9 news9 h9 tk9 F9 N9 P9; k_dflt (obtain ⟨e9, e8⟩ := P9; subst e9; subst e8); (try dsimp only); (try k_fold))
  k_with "z call ref" => (k_here; (with_reducible show wpAny _ _ (call (Value.ref 51) [_, _]) _ _ _); k_dflt (refine' Fn.use (marked_ok ?zzv1 ?zzv2) ?zzk1 ?zzk2 ?zzk3 ?zzk4 ?zzk5 ?zzk6 ?zzkd ?zzku ?_; (case zzk1 => k_asm); (case zzk2 => k_asm); (case zzk4 => k_asm); (case zzk3 => k_asm); (case zzk5 => k_asm); (case zzv1 => walk_at "my_vin"); (case zzv2 => walk_at "my_vin"); (case zzk6 => first | exact rfl | assumption); (case zzkd => walk_at "my_room"); (case zzku => walk_at "my_room"); k_whole); intro r9 news9 h9 tk9 F9 N9 P9; k_dflt (obtain ⟨tl9, e9, o9, v9⟩ := P9; subst e9); (try dsimp only); (try k_fold))
  k_with "z call ref" => (k_here; (with_reducible show wpAny _ _ (call (Value.ref 58) [_]) _ _ _); k_dflt (refine' Fn.use (neg_ok ?zzv1) ?zzk1 ?zzk2 ?zzk3 ?zzk4 ?zzk5 ?zzk6 ?zzkd ?zzku ?_; (case zzk1 => k_asm); (case zzk2 => k_asm); (case zzk4 => k_asm); (case zzk3 => k_asm); (case zzk5 => k_asm); (case zzv1 => walk_at "my_vin"); (case zzk6 => first | exact rfl | assumption); (case zzkd => walk_at "my_room"); (case zzku => walk_at "my_room"); k_whole); intro r9 news9 h9 tk9 F9 N9 P9; k_dflt (obtain ⟨tl9, e9, o9, v9⟩ := P9; subst e9); (try dsimp only); (try k_fold))
  k_with "z call ref" => (k_here; (with_reducible show wpAny _ _ (call (Value.ref 30) [_, _]) _ _ _); k_dflt (refine' Fn.use (make_ok ?zzv1) ?zzk1 ?zzk2 ?zzk3 ?zzk4 ?zzk5 ?zzk6 ?zzkd ?zzku ?_; (case zzk1 => k_asm); (case zzk2 => k_asm); (case zzk4 => k_asm); (case zzk3 => k_asm); (case zzk5 => k_asm); (case zzv1 => walk_at "my_bd"); (case zzk6 => first | exact rfl | assumption); (case zzkd => walk_at "my_room"); (case zzku => walk_at "my_room"); k_whole); intro r9 news9 h9 tk9 F9 N9 P9; k_dflt (obtain ⟨tl9, e9, o9, v9⟩ := P9; subst e9); (try dsimp only); (try k_fold))
  k_with "z call ref" => (k_here; (with_reducible show wpAny _ _ (call (Value.ref 79) [_, _]) _ _ _); k_dflt (refine' Fn.use (mul_ok ?zzv1 ?zzv2 ?zzv3 ?zzv4) ?zzk1 ?zzk2 ?zzk3 ?zzk4 ?zzk5 ?zzk6 ?zzkd ?zzku ?_; (case zzk1 => k_asm); (case zzk2 => k_asm); (case zzk4 => k_asm); (case zzk3 => k_asm); (case zzk5 => k_asm); (case zzv1 => walk_at "my_vin"); (case zzv2 => walk_at "my_vin"); (case zzv3 => walk_at "my_vb"); (case zzv4 => walk_at "my_vb"); (case zzk6 => first | exact rfl | assumption); (case zzkd => walk_at "my_room"); (case zzku => walk_at "my_room"); k_whole); intro r9 news9 h9 tk9 F9 N9 P9; k_dflt (obtain ⟨tl9, e9, o9, v9⟩ := P9; subst e9); (try dsimp only); (try k_fold))
  k_with "z call ref" => (k_here; (with_reducible show wpAny _ _ (call (Value.ref 86) [_, _]) _ _ _); k_dflt (refine' Fn.use (div_ok ?zzv1 ?zzv2 ?zzv3 ?zzv4) ?zzk1 ?zzk2 ?zzk3 ?zzk4 ?zzk5 ?zzk6 ?zzkd ?zzku ?_; (case zzk1 => k_asm); (case zzk2 => k_asm); (case zzk4 => k_asm); (case zzk3 => k_asm); (case zzk5 => k_asm); (case zzv1 => walk_at "my_vin"); (case zzv2 => walk_at "my_vin"); (case zzv3 => walk_at "my_vb"); (case zzv4 => walk_at "my_vb"); (case zzk6 => first | exact rfl | assumption); (case zzkd => walk_at "my_room"); (case zzku => walk_at "my_room"); k_whole); intro r9 news9 h9 tk9 F9 N9 P9; k_dflt (obtain ⟨tl9, e9, o9, v9⟩ := P9; subst e9); (try dsimp only); (try k_fold))
  k_with "z call ref" => (k_here; (with_reducible show wpAny _ _ (call (Value.ref 86) [Value.none, _]) _ _ _); k_dflt (refine' Fn.use (div_nl ?zzv1 ?zzv2) ?zzk1 ?zzk2 ?zzk3 ?zzk4 ?zzk5 ?zzk6 ?zzkd ?zzku ?_; (case zzk1 => k_asm); (case zzk2 => k_asm); (case zzk4 => k_asm); (case zzk3 => k_asm); (case zzk5 => k_asm); (case zzv1 => walk_at "my_vin"); (case zzv2 => walk_at "my_vb"); (case zzk6 => first | exact rfl | assumption); (case zzkd => walk_at "my_room"); (case zzku => walk_at "my_room"); k_whole); intro r9 news9 h9 tk9 F9 N9 P9; k_dflt (obtain ⟨tl9, e9, o9, v9⟩ := P9; subst e9; cases v9); (try dsimp only); (try k_fold))
  k_with "z call ref" => (k_here; (with_reducible show wpAny _ _ (call (Value.ref 86) [_, Value.none]) _ _ _); k_dflt (refine' Fn.use (div_nr ?zzv1 ?zzv2) ?zzk1 ?zzk2 ?zzk3 ?zzk4 ?zzk5 ?zzk6 ?zzkd ?zzku ?_; (case zzk1 => k_asm); (case zzk2 => k_asm); (case zzk4 => k_asm); (case zzk3 => k_asm); (case zzk5 => k_asm); (case zzv1 => walk_at "my_vin"); (case zzv2 => walk_at "my_vb"); (case zzk6 => first | exact rfl | assumption); (case zzkd => walk_at "my_room"); (case zzku => walk_at "my_room"); k_whole); intro r9 news9 h9 tk9 F9 N9 P9; k_dflt (obtain ⟨tl9, e9, o9, v9⟩ := P9; subst e9; cases v9); (try dsimp only); (try k_fold))
  k_with "z call ref" => (k_here; (with_reducible show wpAny _ _ (call (Value.ref 65) [_, _]) _ _ _); k_dflt (refine' Fn.use (add_ok ?zzv1 ?zzv2 ?zzv3 ?zzv4) ?zzk1 ?zzk2 ?zzk3 ?zzk4 ?zzk5 ?zzk6 ?zzkd ?zzku ?_; (case zzk1 => k_asm); (case zzk2 => k_asm); (case zzk4 => k_asm); (case zzk3 => k_asm); (case zzk5 => k_asm); (case zzv1 => walk_at "my_vin"); (case zzv2 => walk_at "my_vin"); (case zzv3 => walk_at "my_vb"); (case zzv4 => walk_at "my_vb"); (case zzk6 => first | exact rfl | assumption); (case zzkd => walk_at "my_room"); (case zzku => walk_at "my_room"); k_whole); intro r9 news9 h9 tk9 F9 N9 P9; k_dflt (obtain ⟨tl9, e9, o9, v9⟩ := P9; subst e9); (try dsimp only); (try k_fold))
  k_with "z call ref" => (k_here; (with_reducible show wpAny _ _ (call (Value.ref 93) [_]) _ _ _); k_dflt (refine' Fn.use (floor_ok ?zzv1 ?zzv2) ?zzk1 ?zzk2 ?zzk3 ?zzk4 ?zzk5 ?zzk6 ?zzkd ?zzku ?_; (case zzk1 => k_asm); (case zzk2 => k_asm); (case zzk4 => k_asm); (case zzk3 => k_asm); (case zzk5 => k_asm); (case zzv1 => walk_at "my_vin"); (case zzv2 => walk_at "my_vb"); (case zzk6 => first | exact rfl | assumption); (case zzkd => walk_at "my_room"); (case zzku => walk_at "my_room"); k_whole); intro r9 news9 h9 tk9 F9 N9 P9; k_dflt (obtain ⟨tl9, e9, o9, v9⟩ := P9; subst e9); (try dsimp only); (try k_fold))
  k_with "z call ref" => (k_here; (with_reducible show wpAny _ _ (call (Value.ref 72) [_, _]) _ _ _); k_dflt (refine' Fn.use (sub_ok ?zzv1 ?zzv2 ?zzv3 ?zzv4) ?zzk1 ?zzk2 ?zzk3 ?zzk4 ?zzk5 ?zzk6 ?zzkd ?zzku ?_; (case zzk1 => k_asm); (case zzk2 => k_asm); (case zzk4 => k_asm); (case zzk3 => k_asm); (case zzk5 => k_asm); (case zzv1 => walk_at "my_vin"); (case zzv2 => walk_at "my_vin"); (case zzv3 => walk_at "my_vb"); (case zzv4 => walk_at "my_vb"); (case zzk6 => first | exact rfl | assumption); (case zzkd => walk_at "my_room"); (case zzku => walk_at "my_room"); k_whole); intro r9 news9 h9 tk9 F9 N9 P9; k_dflt (obtain ⟨tl9, e9, o9, v9⟩ := P9; subst e9); (try dsimp only); (try k_fold))
  k_with "z call ref" => (k_here; (with_reducible show wpAny _ _ (call (Value.ref 135) [_, _]) _ _ _); k_dflt (refine' Fn.use (int_div_ok ?zzv1 ?zzv2 ?zzv3 ?zzv4) ?zzk1 ?zzk2 ?zzk3 ?zzk4 ?zzk5 ?zzk6 ?zzkd ?zzku ?_; (case zzk1 => k_asm); (case zzk2 => k_asm); (case zzk4 => k_asm); (case zzk3 => k_asm); (case zzk5 => k_asm); (case zzv1 => walk_at "my_vin"); (case zzv2 => walk_at "my_vin"); (case zzv3 => walk_at "my_vb"); (case zzv4 => walk_at "my_vb"); (case zzk6 => first | exact rfl | assumption); (case zzkd => walk_at "my_room"); (case zzku => walk_at "my_room"); k_whole); intro r9 news9 h9 tk9 F9 N9 P9; k_dflt (obtain ⟨tl9, e9, o9, v9⟩ := P9; subst e9); (try dsimp only); (try k_fold))
  k_with "z call ref" => (k_here; (with_reducible show wpAny _ _ (call (Value.ref 142) [_, _]) _ _ _); k_dflt (refine' Fn.use (remainder_ok ?zzv1 ?zzv2 ?zzv3 ?zzv4) ?zzk1 ?zzk2 ?zzk3 ?zzk4 ?zzk5 ?zzk6 ?zzkd ?zzku ?_; (case zzk1 => k_asm); (case zzk2 => k_asm); (case zzk4 => k_asm); (case zzk3 => k_asm); (case zzk5 => k_asm); (case zzv1 => walk_at "my_vin"); (case zzv2 => walk_at "my_vin"); (case zzv3 => walk_at "my_vb"); (case zzv4 => walk_at "my_vb"); (case zzk6 => first | exact rfl | assumption); (case zzkd => walk_at "my_room"); (case zzku => walk_at "my_room"); k_whole); intro r9 news9 h9 tk9 F9 N9 P9; k_dflt (obtain ⟨tl9, e9, o9, v9⟩ := P9; subst e9); (try dsimp only); (try k_fold))
  k_with "z call ref" => (k_here; (with_reducible show wpAny _ _ (call (Value.ref 100) [_, _]) _ _ _); k_dflt (refine' Fn.use (near_ok ?zzv1 ?zzv2 ?zzv3) ?zzk1 ?zzk2 ?zzk3 ?zzk4 ?zzk5 ?zzk6 ?zzkd ?zzku ?_; (case zzk1 => k_asm); (case zzk2 => k_asm); (case zzk4 => k_asm); (case zzk3 => k_asm); (case zzk5 => k_asm); (case zzv1 => walk_at "my_pos"); (case zzv2 => walk_at "my_bd"); (case zzv3 => walk_at "my_bd"); (case zzk6 => first | exact rfl | assumption); (case zzkd => walk_at "my_room"); (case zzku => walk_at "my_room"); k_whole); intro r9 news9 h9 tk9 F9 N9 P9; k_dflt (obtain ⟨e9, c9, t9, e8, q9⟩ := P9; subst e9; subst e8; subst q9); (try dsimp only); (try k_fold))
  k_with "z call ref" => (k_here; (with_reducible show wpAny _ _ (call (Value.ref 107) [_, _]) _ _ _); k_dflt (refine' Fn.use (rounded_ok ?zzv1 ?zzv2 ?zzv3 ?zzv4 ?zzv5) ?zzk1 ?zzk2 ?zzk3 ?zzk4 ?zzk5 ?zzk6 ?zzkd ?zzku ?_; (case zzk1 => k_asm); (case zzk2 => k_asm); (case zzk4 => k_asm); (case zzk3 => k_asm); (case zzk5 => k_asm); (case zzv1 => walk_at "my_tp"); (case zzv2 => walk_at "my_pos"); (case zzv3 => walk_at "my_bd"); (case zzv4 => walk_at "my_bd"); (case zzv5 => omega); (case zzk6 => first | exact rfl | assumption); (case zzkd => walk_at "my_room"); (case zzku => walk_at "my_room"); k_whole); intro r9 news9 h9 tk9 F9 N9 P9; k_dflt (obtain ⟨tl9, e9, o9, v9⟩ := P9; subst e9); (try dsimp only); (try k_fold))
  k_with "z call ref" => (k_here; (with_reducible show wpAny _ _ (call (Value.ref 114) [_, _]) _ _ _); k_dflt (refine' Fn.use (rhe_ok ?zzv1 ?zzv2 ?zzv3) ?zzk1 ?zzk2 ?zzk3 ?zzk4 ?zzk5 ?zzk6 ?zzkd ?zzku ?_; (case zzk1 => k_asm); (case zzk2 => k_asm); (case zzk4 => k_asm); (case zzk3 => k_asm); (case zzk5 => k_asm); (case zzv1 => walk_at "my_vin"); (case zzv2 => walk_at "my_vb"); (case zzv3 => omega); (case zzk6 => first | exact rfl | assumption); (case zzkd => walk_at "my_room"); (case zzku => walk_at "my_room"); k_whole); intro r9 news9 h9 tk9 F9 N9 P9; k_dflt (obtain ⟨tl9, e9, o9, v9⟩ := P9; subst e9); (try dsimp only); (try k_fold))
  k_with "z call ref" => (k_here; (with_reducible show wpAny _ _ (call (Value.ref 121) [_]) _ _ _); k_dflt (refine' Fn.use (exponent_ok2 ?zzv1 ?zzv2 ?zzv3 ?zzv4 ?zzv5) ?zzk1 ?zzk2 ?zzk3 ?zzk4 ?zzk5 ?zzk6 ?zzkd ?zzku ?_; (case zzk1 => k_asm); (case zzk2 => k_asm); (case zzk4 => k_asm); (case zzk3 => k_asm); (case zzk5 => k_asm); (case zzv1 => walk_at "my_tp"); (case zzv2 => walk_at "my_pos"); (case zzv3 => omega); (case zzv4 => walk_at "my_bd"); (case zzv5 => walk_at "my_bd"); (case zzk6 => first | exact rfl | assumption); (case zzkd => walk_at "my_room"); (case zzku => walk_at "my_room"); k_whole); intro r9 news9 h9 tk9 F9 N9 P9; k_dflt (obtain ⟨e9, c9, t9, e8, q9⟩ := P9; subst e9; subst e8; (try (obtain ⟨q9a, q9b, q9c⟩ := q9))); (try dsimp only); (try k_fold))
  k_with "z call ref" => (k_here; (with_reducible show wpAny _ _ (call (Value.ref 128) [_, _]) _ _ _); k_dflt (refine' Fn.use (signif_ok ?zzv1 ?zzv2 ?zzv3) ?zzk1 ?zzk2 ?zzk3 ?zzk4 ?zzk5 ?zzk6 ?zzkd ?zzku ?_; (case zzk1 => k_asm); (case zzk2 => k_asm); (case zzk4 => k_asm); (case zzk3 => k_asm); (case zzk5 => k_asm); (case zzv1 => walk_at "my_vin"); (case zzv2 => walk_at "my_vb"); (case zzv3 => omega); (case zzk6 => first | exact rfl | assumption); (case zzkd => walk_at "my_room"); (case zzku => walk_at "my_room"); k_whole); intro r9 news9 h9 tk9 F9 N9 P9; k_dflt (obtain ⟨z9, q9, tl9, e9, o9, v9⟩ := P9; subst e9); (try dsimp only); (try k_fold))
  k_with "z call ref" => (k_here; (with_reducible show wpAny _ _ (call (Value.ref 163) [_, _]) _ _ _); k_dflt (refine' Fn.use (reduced_ok ?zzv1 ?zzv2) ?zzk1 ?zzk2 ?zzk3 ?zzk4 ?zzk5 ?zzk6 ?zzkd ?zzku ?_; (case zzk1 => k_asm); (case zzk2 => k_asm); (case zzk4 => k_asm); (case zzk3 => k_asm); (case zzk5 => k_asm); (case zzv1 => walk_at "my_pos"); (case zzv2 => walk_at "my_bd"); (case zzk6 => first | exact rfl | assumption); (case zzkd => walk_at "my_room"); (case zzku => walk_at "my_room"); k_whole); intro r9 news9 h9 tk9 F9 N9 P9; k_dflt (obtain ⟨tl9, e9, o9, v9⟩ := P9; subst e9); (try dsimp only); (try k_fold))
  k_with "z compareOp NotEq ref ref" => (k_here; (with_reducible show wpAny _ _ (compareOp CmpOp.NotEq (Value.ref _) (Value.ref _)) _ _ _); k_dflt (refine' row_ne ?zzN ?zza ?zzb ?zzhv ?zzhu ?_; (case zzN => k_asm); (case zza => k_mem); (case zzb => k_mem); (case zzhv => walk_at "my_ints"); (case zzhu => walk_at "my_room"); k_whole))
  k_with "my_ints" => first | assumption | exact fun _ h => nomatch h
  k_with "z call builtin:list.pop" => (k_here; (with_reducible show wpAny _ _ (call (Value.builtin "list.pop") _) _ _ _); k_dflt (refine' row_pop ?zzF ?zzN ?zzb ?zzT ?zzz ?_; (case zzF => k_asm); (case zzN => k_asm); (case zzb => first | exact And.left (by assumption) | omega); (case zzT => assumption); (case zzz => assumption); k_whole); intro h' F' N')
  k_with "my_off" => (repeat' (first | (with_reducible exact Off.nil) | (with_reducible assumption) | (with_reducible refine Off.cons ?_ ?_) | (with_reducible refine Off.app ?_ ?_) | (show @Ne Nat _ _; omega)))
  k_with "my_pres" => first | (refine' Fn.use (next_at0 ?zzv1 ?zzv2 ?zzv3) ?zzk1 ?zzk2 ?zzk3 ?zzk4 ?zzk5 ?zzk6 ?zzkd ?zzku ?_; (case zzk4 => with_reducible assumption)) | (refine' Fn.use (next_at5 ?zzv1 ?zzv2 ?zzv3) ?zzk1 ?zzk2 ?zzk3 ?zzk4 ?zzk5 ?zzk6 ?zzkd ?zzku ?_; (case zzk4 => with_reducible assumption))
  k_with "z call ref" => (k_here; (with_reducible show wpAny _ _ (call (Value.ref 156) [_]) _ _ _); k_dflt (walk_at "my_pres"; (case zzk1 => k_asm); (case zzk2 => k_asm); (case zzk3 => k_asm); (case zzk5 => k_asm); (case zzv1 => walk_at "my_off"); (case zzv2 => walk_at "my_off"); (case zzv3 => assumption); (case zzk6 => first | exact rfl | assumption); (case zzkd => walk_at "my_room"); (case zzku => walk_at "my_room"); k_whole); intro r9 news9 h9 tk9 F9 N9 P9; k_dflt (obtain ⟨o9, c9, t9, q9, e9, e8, c0, c1⟩ := P9; subst e9; subst e8); (try simp only [List.nil_append, List.cons_append] at N9); (try dsimp only); (try k_fold))
  k_with "my_rng" => first | omega
  k_with "z subscriptTail" => (k_here; (with_reducible show wpAny _ _ (subscriptTail (Expr.List _ _) _ (Value.ref _) (Value.int _ _)) _ _ _); k_dflt (first | (refine' list_item2T ?zzN ?zzm ?zzt0 ?zzt1 ?zzr (fun a9 n9 T9 d9 => ?_) ?zzhs; (case zzN => k_asm); (case zzm => k_mem); (case zzt0 => walk_at "my_tp"); (case zzt1 => walk_at "my_tp"); (case zzr => walk_at "my_rng"); (case zzhs => with_unfolding_all rfl); k_whole) | (refine' list_item4 ?zzN ?zzm ?zzr (fun e9 => ?_) (fun e9 => ?_) (fun e9 => ?_) (fun e9 => ?_) ?zzhs; (case zzN => k_asm); (case zzm => k_mem); (case zzr => walk_at "my_rng"); (case zzhs => with_unfolding_all rfl); k_whole)))
  k_with "z binaryOp Mod int int" => (k_here; (with_reducible show wpAny _ _ (binaryOp _ (Value.int _ _) (Value.int _ _)) _ _ _); k_dflt (refine' mod_pos ?zzhb (fun r9 e9 l9 h9 t9 tk9 => ?_); (case zzhb => first | decide | omega); k_whole); (try dsimp only))
  k_with "my_bs" => exact Bd.rng (k := 20) (by with_reducible assumption) (by with_reducible assumption) (by decide)
  k_with "z compareOp Eq ref ref" => (k_here; (with_reducible show wpAny _ _ (compareOp CmpOp.Eq (Value.ref _) (Value.ref _)) _ _ _); k_dflt (refine' tp_eq ?zzX ?zzF ?zzN ?zza ?zzb ?zzhu ?_; (case zzF => k_asm); (case zzN => k_asm); (case zzX => k_asm); (case zza => walk_at "my_tp"); (case zzb => walk_at "my_tp"); (case zzhu => walk_at "my_room"); k_whole))
  trivial


theorem red_scale {k n d : Int} (hk : 0 < k) : red (k * n) (k * d) = red n d := by
  have hg : ((Int.gcd (k * n) (k * d) : Nat) : Int) = k * (Int.gcd n d : Int) := by
    rw [Int.gcd_mul_left, Int.natCast_mul, Int.natAbs_of_nonneg (Int.le_of_lt hk)]
  unfold red
  rw [hg, Int.mul_fdiv_mul_of_pos _ _ hk, Int.mul_fdiv_mul_of_pos _ _ hk]
theorem red_id {n d : Int} (h : Int.gcd n d = 1) : red n d = (n, d) := by
  unfold red
  rw [h]
  simp only [Int.ofNat_one, Int.fdiv_one]
theorem red_parts {n d : Int} (hd : 0 < d) : ∃ g p r : Int, 0 < g ∧ red n d = (p, r) ∧ 0 < r ∧ Int.gcd p r = 1 ∧ n = g * p ∧ d = g * r := by
  refine ⟨(Int.gcd n d : Int), (red n d).1, (red n d).2, gcd_pos hd, rfl, red_pos hd, red_gcd hd, ?_, ?_⟩
  · rw [red_eq hd]; exact (Int.mul_ediv_cancel' (Int.gcd_dvd_left n d)).symm
  · rw [red_eq hd]; exact (Int.mul_ediv_cancel' (Int.gcd_dvd_right n d)).symm
theorem makeF_pos {n d : Int} (hd : 0 < d) : makeF n d = some (red n d) := by
  unfold makeF; rw [if_neg (by omega), if_neg (by omega)]
theorem makeF_frac {n d : Int} (hd : d ≠ 0) : ∃ p r, makeF n d = some (p, r) ∧ 0 < r ∧ p.fdiv r = n.fdiv d := by
  by_cases h : 0 < d
  · obtain ⟨g, p, r, hg, e, hr, _, h1, h2⟩ := @red_parts n d h
    refine ⟨p, r, by rw [makeF_pos h, e], hr, ?_⟩
    rw [h1, h2, Int.mul_fdiv_mul_of_pos _ _ hg]
  · obtain ⟨g, p, r, hg, e, hr, _, h1, h2⟩ := @red_parts (0 - n) (0 - d) (by omega)
    refine ⟨p, r, by unfold makeF; rw [if_neg hd, if_pos (by omega), e], hr, ?_⟩
    have e1 : n.fdiv d = (0 - n).fdiv (0 - d) := by rw [Int.zero_sub, Int.zero_sub, Int.neg_fdiv_neg]
    rw [e1, h1, h2, Int.mul_fdiv_mul_of_pos _ _ hg]
theorem red_zero {d : Int} (hd : 0 < d) : red 0 d = (0, 1) := by
  unfold red
  rw [Int.gcd_zero_left, Int.zero_fdiv, Int.natAbs_of_nonneg (Int.le_of_lt hd), Int.fdiv_self (by omega)]
theorem makeF_zero {d : Int} (hd : d ≠ 0) : makeF 0 d = some (0, 1) := by
  unfold makeF
  rw [if_neg hd]
  split
  · rw [Int.sub_zero, red_zero (by omega)]
  · rw [red_zero (by omega)]
theorem isNa_some {a b : Int} : isNa (some (a, b)) = decide (a = 0 ∧ b = 0) := rfl
theorem isNa_no {a b : Int} (h : b ≠ 0) : isNa (some (a, b)) = false := by
  rw [isNa_some, decide_eq_false_iff_not]; exact fun e => h e.2
theorem addF_fin {a b p r : Int} (hb : 0 < b) (hr : 0 < r) : addF (some (a, b)) (some (p, r)) = some (red (a * r + p * b) (b * r)) := by
  unfold addF
  dsimp only
  rw [isNa_no (by omega), isNa_no (by omega), Bool.or_self, if_neg Bool.false_ne_true, if_neg (by omega), if_neg (by omega), if_neg (by omega), makeF_pos (Int.mul_pos hb hr)]
theorem law_div_fin {a b c e : Int} (hb : 0 < b) (he : 0 < e) (hc : c ≠ 0) :
    (intDivF (some (a, b)) (some (c, e)), remF (some (a, b)) (some (c, e))) = (some ((a * e).fdiv (b * c), 1), some (red (a * e - (a * e).fdiv (b * c) * c * b) (b * e))) := by
  have hbc : b * c ≠ 0 := Int.mul_ne_zero (by omega) hc
  have hdiv : divF (some (a, b)) (some (c, e)) = makeF (a * e) (b * c) := by
    unfold divF
    dsimp only
    rw [isNa_no (by omega), isNa_no (by omega), Bool.or_self, if_neg Bool.false_ne_true, if_neg (by omega), if_neg (by omega)]
  obtain ⟨p, r, e1, hr, e2⟩ := @makeF_frac (a * e) (b * c) hbc
  rw [e1] at hdiv
  have hfl : floorF (divF (some (a, b)) (some (c, e))) = some ((a * e).fdiv (b * c), 1) := by
    rw [hdiv]; unfold floorF; dsimp only; rw [if_pos hr, e2]
  have h1 : intDivF (some (a, b)) (some (c, e)) = some ((a * e).fdiv (b * c), 1) := by
    unfold intDivF
    rw [if_pos (by rw [hdiv]; exact decide_eq_true hr)]
    dsimp only
    rw [if_neg (by omega), hfl]
  rw [h1]
  generalize hq : (a * e).fdiv (b * c) = q at *
  have hm : mulF (some (q, 1)) (some (c, e)) = some (red (q * c) e) := by
    unfold mulF
    dsimp only
    rw [isNa_no (by omega), isNa_no (by omega), Bool.or_self, if_neg Bool.false_ne_true, Int.one_mul, makeF_pos he]
  obtain ⟨g, p', r', hg, e3, hr', _, h3, h4⟩ := @red_parts (q * c) e he
  have h2 : remF (some (a, b)) (some (c, e)) = some (red (a * r' + (0 - p') * b) (b * r')) := by
    unfold remF
    dsimp only
    rw [isNa_no (by omega), isNa_no (by omega), Bool.or_self, if_neg Bool.false_ne_true, if_neg (by omega), if_neg (by omega), hfl, hm, e3]
    exact addF_fin hb hr'
  rw [h2]
  have h5 : a * e - q * c * b = g * (a * r' + (0 - p') * b) := by
    rw [h3, h4, Int.mul_add, Int.zero_sub, Int.neg_mul, Int.mul_neg, ← Int.sub_eq_add_neg]
    rw [Int.mul_left_comm a g r', Int.mul_assoc g p' b]
  have h6 : b * e = g * (b * r') := by rw [h4, Int.mul_left_comm]
  rw [h5, h6, red_scale hg]
theorem law_div_top {a b c : Int} (hb : 0 < b) (hc : c ≠ 0) :
    (intDivF (some (a, b)) (some (c, 0)), remF (some (a, b)) (some (c, 0))) = (if a * c < 0 then (some (-1, 1), some (c, 0)) else (some (0, 1), some (a, b))) := by
  have hbc : b * c ≠ 0 := Int.mul_ne_zero (by omega) hc
  have hn : isNa (some (c, 0)) = false := by rw [isNa_some, decide_eq_false_iff_not]; exact fun e => hc e.1
  have hdiv : divF (some (a, b)) (some (c, 0)) = some (0, 1) := by
    unfold divF
    dsimp only
    rw [isNa_no (by omega), hn, Bool.or_self, if_neg Bool.false_ne_true, if_neg (by omega), if_neg (by omega), Int.mul_zero, makeF_zero hbc]
  have h1 : intDivF (some (a, b)) (some (c, 0)) = (if a * c < 0 then some (-1, 1) else some (0, 1)) := by
    unfold intDivF
    rw [hdiv, if_pos (by decide)]
    dsimp only
    rw [if_pos rfl]
  have h2 : remF (some (a, b)) (some (c, 0)) = (if a * c < 0 then some (c, 0) else some (a, b)) := by
    unfold remF
    dsimp only
    rw [isNa_no (by omega), hn, Bool.or_self, if_neg Bool.false_ne_true, if_neg (by omega), if_pos rfl]
  rw [h1, h2]
  split <;> rfl
theorem law_div_naught {a b e : Int} (hb : 0 < b) (he : 0 < e) :
    (intDivF (some (a, b)) (some (0, e)), remF (some (a, b)) (some (0, e))) = (some (if 0 < a then 1 else if a < 0 then -1 else 0, 0), some (0, 0)) := by
  have hdiv : divF (some (a, b)) (some (0, e)) = some (if 0 < a then 1 else if a < 0 then -1 else 0, 0) := by
    unfold divF
    dsimp only
    rw [isNa_no (by omega), isNa_no (by omega), Bool.or_self, if_neg Bool.false_ne_true, if_neg (by omega), if_neg (by omega), Int.mul_zero]
    unfold makeF
    rw [if_pos rfl]
    by_cases h0 : a = 0
    · subst h0; rw [Int.zero_mul]; rfl
    by_cases h1 : 0 < a
    · have := Int.mul_pos h1 he
      rw [if_neg (by omega), if_pos this, if_pos h1]
    · have := Int.mul_neg_of_neg_of_pos (show a < 0 by omega) he
      rw [if_neg (by omega), if_neg (by omega), if_neg h1, if_pos (by omega)]
  have h1 : intDivF (some (a, b)) (some (0, e)) = some (if 0 < a then 1 else if a < 0 then -1 else 0, 0) := by
    unfold intDivF
    rw [hdiv, if_neg (by simp [isFin])]
  have h2 : remF (some (a, b)) (some (0, e)) = some (0, 0) := by
    unfold remF
    dsimp only
    rw [isNa_no (by omega), isNa_no (by omega), Bool.or_self, if_neg Bool.false_ne_true, if_pos (.inl rfl)]
  rw [h1, h2]
theorem law_div_far {a c e : Int} (ha : a ≠ 0) (he : 0 < e) :
    (intDivF (some (a, 0)) (some (c, e)), remF (some (a, 0)) (some (c, e))) = (some (if c < 0 then 0 - a else a, 0), some (0, 0)) := by
  have hn : isNa (some (a, 0)) = false := by rw [isNa_some, decide_eq_false_iff_not]; exact fun e => ha e.1
  have hdiv : divF (some (a, 0)) (some (c, e)) = some (if c < 0 then 0 - a else a, 0) := by
    unfold divF
    dsimp only
    rw [hn, isNa_no (a := c) (b := e) (by omega), Bool.or_self, if_neg Bool.false_ne_true, if_neg (by omega), if_pos rfl]
    split <;> rfl
  have h1 : intDivF (some (a, 0)) (some (c, e)) = some (if c < 0 then 0 - a else a, 0) := by
    unfold intDivF
    rw [hdiv, if_neg (by simp [isFin])]
  have h2 : remF (some (a, 0)) (some (c, e)) = some (0, 0) := by
    unfold remF
    dsimp only
    rw [hn, isNa_no (a := c) (b := e) (by omega), Bool.or_self, if_neg Bool.false_ne_true, if_pos (.inr rfl)]
  rw [h1, h2]
theorem law_div {x y : V} (gx : GoodV x) (gy : GoodV y) : (intDivF x y, remF x y) = lawDivF x y := by
  cases x with
  | none => rfl
  | some p =>
    cases y with
    | none => rfl
    | some q =>
      obtain ⟨a, b⟩ := p
      obtain ⟨c, e⟩ := q
      obtain ⟨_, _, g1⟩ := gx
      obtain ⟨_, _, g2⟩ := gy
      rcases g1 with ⟨rfl, ha⟩ | ⟨hb, _⟩
      · rcases g2 with ⟨rfl, hc⟩ | ⟨he, _⟩
        · rcases ha with rfl | rfl | rfl <;> rcases hc with rfl | rfl | rfl <;> rfl
        · by_cases ha0 : a = 0
          · subst ha0
            unfold lawDivF intDivF remF divF
            simp [isNa, isFin]
          · rw [law_div_far ha0 he]
            unfold lawDivF
            dsimp only
            rw [if_neg (show ¬ ((a = 0 ∧ (0 : Int) = 0) ∨ (c = 0 ∧ e = 0)) by omega)]
            by_cases hc : c = 0
            · subst hc
              rw [if_pos rfl, if_neg (show ¬ ((0 : Int) < 0) by decide)]
              rcases ha with rfl | rfl | rfl
              · exact absurd rfl ha0
              · rfl
              · rfl
            · rw [if_neg hc, if_neg (show ¬ ((0 : Int) = 0 ∧ e = 0) by omega), if_pos rfl]
              by_cases h : 0 < c
              · rw [if_neg (show ¬ c < 0 by omega), if_pos h]
              · rw [if_pos (show c < 0 by omega), if_neg h, Int.zero_sub]
      · rcases g2 with ⟨rfl, hc⟩ | ⟨he, _⟩
        · by_cases hc0 : c = 0
          · subst hc0
            unfold lawDivF intDivF remF divF
            simp [isNa, isFin]
          · rw [law_div_top hb hc0]
            unfold lawDivF
            dsimp only
            rw [if_neg (show ¬ ((a = 0 ∧ b = 0) ∨ (c = 0 ∧ (0 : Int) = 0)) by omega), if_neg hc0, if_neg (show ¬ (b = 0 ∧ (0 : Int) = 0) by omega), if_neg (show ¬ b = 0 by omega), if_pos rfl]
        · by_cases hc0 : c = 0
          · subst hc0
            rw [law_div_naught hb he]
            unfold lawDivF
            dsimp only
            rw [if_neg (show ¬ ((a = 0 ∧ b = 0) ∨ ((0 : Int) = 0 ∧ e = 0)) by omega), if_pos rfl]
          · rw [law_div_fin hb he hc0]
            unfold lawDivF
            dsimp only
            rw [if_neg (by omega), if_neg hc0, if_neg (by omega), if_neg (by omega), if_neg (by omega)]
theorem absI_nat (t : Int) : (if t < 0 then -t else t) = (t.natAbs : Int) := by split <;> omega
theorem near_spec {n d m : Int} (hd : 0 < d) (hm : m = nearF n d) : ((n - m * d).natAbs : Int) * 2 < d ∨ (((n - m * d).natAbs : Int) * 2 = d ∧ m.fmod 2 = 0) := by
  have h1 : d * n.fdiv d + n.fmod d = n := Int.mul_fdiv_add_fmod n d
  have h2 := Int.fmod_nonneg_of_pos n hd
  have h3 := Int.fmod_lt_of_pos n hd
  have e : n.fdiv d * d = d * n.fdiv d := Int.mul_comm _ _
  have p0 := Int.fmod_eq_emod_of_nonneg (n.fdiv d) (show (0 : Int) ≤ 2 by decide)
  have p1 := Int.fmod_eq_emod_of_nonneg (n.fdiv d + 1) (show (0 : Int) ≤ 2 by decide)
  unfold nearF at hm
  rw [e] at hm
  split at hm
  · subst hm
    rw [p1, Int.add_mul, Int.one_mul, e]
    omega
  · subst hm
    rw [p0, e]
    omega
theorem nearB_of {n d p q un ud : Int} (h1 : (p * ud).fmod (q * un) = 0) (h2 : ((n * q - p * d).natAbs : Int) * 2 * ud < d * q * un ∨ (((n * q - p * d).natAbs : Int) * 2 * ud = d * q * un ∧ ((p * ud).fdiv (q * un)).fmod 2 = 0)) : nearB n d p q un ud = true := by
  unfold nearB
  rw [absI_nat]
  exact decide_eq_true ⟨h1, h2⟩
theorem mul_fmod_self {m b : Int} : (m * b).fmod b = 0 := by
  have := Int.mul_fdiv_add_fmod (m * b) b
  by_cases hb : b = 0
  · subst hb; rw [Int.fmod_zero, Int.mul_zero]
  · rw [Int.mul_fdiv_cancel m hb, Int.mul_comm] at this
    omega
theorem Bd.red {j k : Nat} {n d : Int} (h1 : Bd j n) (h2 : Bd k d) : Bd (j + 1) (red n d).1 ∧ Bd (k + 1) (red n d).2 := ⟨h1.fdiv, h2.fdiv⟩
theorem round_law {n d p : Int} (hd : 0 < d) (bn : Bd 100 n) (hp : -60 ≤ p ∧ p ≤ 60) :
    ∃ a b, roundF n d p = some (a, b) ∧ 0 < b ∧ red a b = (a, b) ∧ Bd 900 a ∧ Bd 900 b ∧ nearB n d a b (10 ^ (0 - p).toNat) (10 ^ p.toNat) = true := by
  unfold roundF
  by_cases h0 : 0 ≤ p
  · rw [if_pos h0, show (0 - p).toNat = 0 by omega, Int.pow_zero]
    have hs : (0 : Int) < 10 ^ p.toNat := pow10_pos
    have bs : Bd 240 ((10 : Int) ^ p.toNat) := Bd.pow10 hp.2
    generalize (10 : Int) ^ p.toNat = s at *
    have hm := near_spec (n := n * s) hd rfl
    have bm : Bd 342 (nearF (n * s) d) := (bn.mul bs).near
    generalize nearF (n * s) d = m at *
    obtain ⟨g, a, b, hg, e, hb, hgc, e1, e2⟩ := @red_parts m s hs
    obtain ⟨b1, b2⟩ := bm.red bs
    rw [e] at b1 b2
    refine ⟨a, b, by rw [makeF_pos hs, e], hb, red_id hgc, b1.le (by decide), b2.le (by decide), nearB_of ?_ ?_⟩
    · rw [Int.mul_one, show a * s = m * b by rw [e1, e2, Int.mul_comm g b, Int.mul_comm g a, Int.mul_assoc, Int.mul_comm b g]]
      exact mul_fmod_self
    · have ha : a * s = m * b := by rw [e1, e2, Int.mul_comm g b, Int.mul_comm g a, Int.mul_assoc, Int.mul_comm b g]
      rw [Int.mul_one, Int.mul_one, ha, Int.mul_fdiv_cancel m (by omega)]
      have e3 : ((n * b - a * d).natAbs : Int) * 2 * s = b * (((n * s - m * d).natAbs : Int) * 2) := by
        have e4 : (n * b - a * d) * s = (n * s - m * d) * b := by
          rw [Int.sub_mul, Int.sub_mul, Int.mul_right_comm a d s, ha, Int.mul_right_comm m b d, Int.mul_right_comm n b s]
        have e5 := congrArg (fun z : Int => (z.natAbs : Int)) e4
        simp only [Int.natAbs_mul, Int.natCast_mul] at e5
        rw [Int.natAbs_of_nonneg (Int.le_of_lt hs), Int.natAbs_of_nonneg (Int.le_of_lt hb)] at e5
        rw [Int.mul_right_comm, e5, Int.mul_right_comm, Int.mul_comm]
      rw [e3, Int.mul_comm d b]
      rcases hm with h | ⟨h, h'⟩
      · exact .inl (Int.mul_lt_mul_of_pos_left h hb)
      · exact .inr ⟨by rw [h], h'⟩
  · rw [if_neg h0, show p.toNat = 0 by omega, Int.pow_zero]
    have hs : (0 : Int) < 10 ^ (0 - p).toNat := pow10_pos
    have bs : Bd 240 ((10 : Int) ^ (0 - p).toNat) := Bd.pow10 (by omega)
    generalize (10 : Int) ^ (0 - p).toNat = s at *
    have hm := near_spec (n := n) (Int.mul_pos hd hs) rfl
    have bm : Bd 102 (nearF n (d * s)) := bn.near
    generalize nearF n (d * s) = m at *
    refine ⟨m * s, 1, rfl, by decide, red_id (by rw [Int.gcd_one_right]), (bm.mul bs).le (by decide), .small (by decide) (by decide), nearB_of ?_ ?_⟩
    · rw [Int.mul_one, Int.one_mul]; exact mul_fmod_self
    · rw [Int.mul_one, Int.mul_one, Int.one_mul, Int.mul_one, Int.mul_one, Int.mul_fdiv_cancel m (by omega), show m * s * d = m * (d * s) by rw [Int.mul_assoc, Int.mul_comm s d]]
      exact hm
theorem pow10_mono {j k : Nat} (h : j ≤ k) : (10 : Int) ^ j ≤ 10 ^ k := by
  have h2 : ((10 ^ j : Nat) : Int) ≤ ((10 ^ k : Nat) : Int) := Int.ofNat_le.mpr (Nat.pow_le_pow_right (by decide) h)
  rwa [Int.natCast_pow, Int.natCast_pow] at h2
theorem IsExp.le {N d c c' : Int} (hN : 0 < N) (hd : 0 < d) (h : IsExp N d c) (h' : IsExp N d c') : c' ≤ c := by
  refine Int.not_lt.mp fun hlt => ?_
  rcases h with ⟨h0, h1, h2⟩ | ⟨h0, h1, h2⟩
  · rcases h' with ⟨k0, k1, k2⟩ | ⟨k0, k1, k2⟩
    · have e := Int.mul_le_mul_of_nonneg_right (pow10_mono (show c.toNat + 1 ≤ c'.toNat by omega)) (Int.le_of_lt hd)
      omega
    · omega
  · rcases h' with ⟨k0, k1, k2⟩ | ⟨k0, k1, k2⟩
    · have e1 : d ≤ 10 ^ c'.toNat * d := by
        have e := Int.mul_le_mul_of_nonneg_right (pow10_mono (Nat.zero_le c'.toNat)) (Int.le_of_lt hd)
        rw [Int.pow_zero, Int.one_mul] at e; exact e
      have e2 : N ≤ N * 10 ^ ((-c).toNat - 1) := by
        have e := Int.mul_le_mul_of_nonneg_left (pow10_mono (Nat.zero_le ((-c).toNat - 1))) (Int.le_of_lt hN)
        rw [Int.pow_zero, Int.mul_one] at e; exact e
      omega
    · have e := Int.mul_le_mul_of_nonneg_left (pow10_mono (show (-c').toNat ≤ (-c).toNat - 1 by omega)) (Int.le_of_lt hN)
      omega
theorem IsExp.uniq {N d c c' : Int} (hN : 0 < N) (hd : 0 < d) (h : IsExp N d c) (h' : IsExp N d c') : c = c' := Int.le_antisymm (h'.le hN hd h) (h.le hN hd h')



theorem near_cast {n d a b : Int} {u v u' v' : Nat} (h : nearB n d a b (10 ^ u) (10 ^ v) = true) (eu : u' = u) (ev : v' = v) : nearB n d a b (10 ^ u') (10 ^ v') = true := by subst eu; subst ev; exact h
theorem exp_up {N d c : Int} (h : IsExp N d c) (hN : 0 < N) (hd : 0 < d) (k : Nat) : 10 ^ (k + 1) * d ≤ N ↔ (k : Int) + 1 ≤ c := by
  constructor
  · intro hk
    rcases h with ⟨h0, h1, h2⟩ | ⟨h0, h1, h2⟩
    · refine Int.not_lt.mp fun hlt => ?_
      have e := Int.mul_le_mul_of_nonneg_right (pow10_mono (show c.toNat + 1 ≤ k + 1 by omega)) (Int.le_of_lt hd)
      omega
    · exfalso
      have e1 : d ≤ 10 ^ (k + 1) * d := by
        have e := Int.mul_le_mul_of_nonneg_right (pow10_mono (Nat.zero_le (k + 1))) (Int.le_of_lt hd)
        rw [Int.pow_zero, Int.one_mul] at e; exact e
      have e2 : N ≤ N * 10 ^ ((-c).toNat - 1) := by
        have e := Int.mul_le_mul_of_nonneg_left (pow10_mono (Nat.zero_le ((-c).toNat - 1))) (Int.le_of_lt hN)
        rw [Int.pow_zero, Int.mul_one] at e; exact e
      omega
  · intro hk
    rcases h with ⟨h0, h1, h2⟩ | ⟨h0, h1, h2⟩
    · have e := Int.mul_le_mul_of_nonneg_right (pow10_mono (show k + 1 ≤ c.toNat by omega)) (Int.le_of_lt hd)
      omega
    · omega
theorem exp_dn {N d c : Int} (h : IsExp N d c) (hN : 0 < N) (hd : 0 < d) (j : Nat) : N * 10 ^ j < d ↔ c < -(j : Int) := by
  constructor
  · intro hj
    refine Int.not_le.mp fun hle => ?_
    rcases h with ⟨h0, h1, h2⟩ | ⟨h0, h1, h2⟩
    · have e1 : d ≤ 10 ^ c.toNat * d := by
        have e := Int.mul_le_mul_of_nonneg_right (pow10_mono (Nat.zero_le c.toNat)) (Int.le_of_lt hd)
        rw [Int.pow_zero, Int.one_mul] at e; exact e
      have e2 : N ≤ N * 10 ^ j := by
        have e := Int.mul_le_mul_of_nonneg_left (pow10_mono (Nat.zero_le j)) (Int.le_of_lt hN)
        rw [Int.pow_zero, Int.mul_one] at e; exact e
      omega
    · have e := Int.mul_le_mul_of_nonneg_left (pow10_mono (show (-c).toNat ≤ j by omega)) (Int.le_of_lt hN)
      omega
  · intro hlt
    rcases h with ⟨h0, h1, h2⟩ | ⟨h0, h1, h2⟩
    · omega
    · have e := Int.mul_le_mul_of_nonneg_left (pow10_mono (show j ≤ (-c).toNat - 1 by omega)) (Int.le_of_lt hN)
      omega
section
variable {prog : Program} {P : Params} {w : World} {A : Around} {E : Value → Shared → Prop} {s : Shared} {h₀ : Heap} {L a b : Addr} {m : Str → Option Value} {full : Led} {v u v1 v2 u1 u2 : Value} {x y x1 x2 : V} {z : V × V} {n d : Int} {Q : Value → Shared → Prop}
theorem pair_ne_law (X : (Mine.hd.heap_39 P).In h₀) (F : Fr h₀ L s.heap m) (N : News h₀ L s.heap full) (ma : (a, ({ cls := .type "tuple", data := .seq #[v1, v2] } : Obj)) ∈ full) (mb : (b, ({ cls := .type "tuple", data := .seq #[u1, u2] } : Obj)) ∈ full)
    (h1 : VIn full v1 x1) (h2 : VIn full v2 x2) (h3 : VIn full u1 z.1) (h4 : VIn full u2 z.2) (e : (x1, x2) = z) (hu : A.units + 8 < cLine) (h : Q (.bool false) s) : wpAny (model prog w) A (compareOp .NotEq (.ref a) (.ref b)) Q E s := by
  subst e
  refine pair_ne X F N ma mb h1 h2 h3 h4 hu ?_
  rw [decide_eq_true ⟨rfl, rfl⟩]; exact h
theorem vin_ne_same (X : (Mine.hd.heap_39 P).In h₀) (F : Fr h₀ L s.heap m) (N : News h₀ L s.heap full) (hx : VIn full v x) (hy : VIn full u x) (hu : A.units + 8 < cLine) (h : Q (.bool false) s) : wpAny (model prog w) A (compareOp .NotEq v u) Q E s := by
  refine vin_ne X F N hx hy hu ?_
  rw [decide_eq_true rfl]; exact h
theorem vin_eq_same (X : (Mine.hd.heap_39 P).In h₀) (F : Fr h₀ L s.heap m) (N : News h₀ L s.heap full) (hx : VIn full v x) (hy : VIn full u x) (hu : A.units + 8 < cLine) (h : Q (.bool true) s) : wpAny (model prog w) A (compareOp .Eq v u) Q E s := by
  refine vin_eq X F N hx hy hu ?_
  rw [decide_eq_true rfl]; exact h
theorem tp_ne_same (X : (Mine.hd.heap_39 P).In h₀) (F : Fr h₀ L s.heap m) (N : News h₀ L s.heap full) (hx : Tp full a n d) (hy : Tp full b n d) (hu : A.units + 8 < cLine) (h : Q (.bool false) s) : wpAny (model prog w) A (compareOp .NotEq (.ref a) (.ref b)) Q E s := vin_ne_same X F N (.some hx) (.some hy) hu h
theorem tp_eq_same (X : (Mine.hd.heap_39 P).In h₀) (F : Fr h₀ L s.heap m) (N : News h₀ L s.heap full) (hx : Tp full a n d) (hy : Tp full b n d) (hu : A.units + 8 < cLine) (h : Q (.bool true) s) : wpAny (model prog w) A (compareOp .Eq (.ref a) (.ref b)) Q E s := vin_eq_same X F N (.some hx) (.some hy) hu h
end
/-- what a def that hands back a pair leaves, of which S is told -/
def PF (news : Led) (S : Int → Int → Prop) (news' : Led) (r : Value) : Prop := ∃ tl a p q, tl ++ news = news' ∧ Tups tl ∧ r = .ref a ∧ Tp news' a p q ∧ S p q
theorem PV.toF {news news' : Led} {r : Value} {p q : Int} {S : Int → Int → Prop} (h : PV news (some (p, q)) news' r) (hs : S p q) : PF news S news' r := by
  obtain ⟨tl, e, t, v⟩ := h
  cases v with
  | some H => exact ⟨tl, _, p, q, e, t, rfl, H, hs⟩
theorem Fn.mono {w : World} {mean : ExcName → Option Value} {mg mb : Str → Option Value} {f : Addr} {k : Nat} {news : Led} {vs : List Value} {Post Post' : Led → Value → Prop} (C : Fn w mean mg mb f k news vs Post) (h : ∀ n r, Post n r → Post' n r) : Fn w mean mg mb f k news vs Post' := by
  intro dp un gd cn cs a ccd cl outer A₀ base h₀ L m s Q E B F X N T hk hd hu hret
  exact C dp un gd cn cs a ccd cl outer A₀ base h₀ L m s Q E B F X N T hk hd hu fun r news' h' tk' F' N' P => hret r news' h' tk' F' N' (h _ _ P)
def NearS (n d p : Int) (a b : Int) : Prop := 0 < b ∧ red a b = (a, b) ∧ Bd 900 a ∧ Bd 900 b ∧ nearB n d a b (10 ^ (0 - p).toNat) (10 ^ p.toNat) = true
theorem GoodV.vb {x : V} (g : GoodV x) : VB 60 x := fun n d e => by subst e; exact ⟨g.1, g.2.1⟩
theorem rhe_none {w : World} {mean : ExcName → Option Value} {mg mb : Str → Option Value} {news : Led} {p : Int} {t : Tok} (hp : p = 400 ∨ (-60 ≤ p ∧ p ≤ 60)) : Fn w mean mg mb 114 4 news [.none, .int p t] (PV news none) := rhe_ok (x := none) .none .none hp
theorem rhe_top {w : World} {mean : ExcName → Option Value} {mg mb : Str → Option Value} {news : Led} {a : Addr} {n d p : Int} {t : Tok} (H : Tp news a n d) (bn : Bd 60 n) (bd : Bd 60 d) (h : d = 0 ∨ p = 400) (hp : p = 400 ∨ (-60 ≤ p ∧ p ≤ 60)) : Fn w mean mg mb 114 4 news [.ref a, .int p t] (PV news (some (n, d))) := by
  have e : rheF (some (n, d)) p = some (n, d) := by unfold rheF; dsimp only; rw [if_neg (by omega)]
  rw [← e]
  exact rhe_ok (.some H) (.some (bn.le (by decide)) (bd.le (by decide))) hp
theorem rhe_fin {w : World} {mean : ExcName → Option Value} {mg mb : Str → Option Value} {news : Led} {a : Addr} {n d p : Int} {t : Tok} (H : Tp news a n d) (hd : 0 < d) (bn : Bd 60 n) (bd : Bd 60 d) (hp : -60 ≤ p ∧ p ≤ 60) : Fn w mean mg mb 114 4 news [.ref a, .int p t] (PF news (NearS n d p)) := by
  obtain ⟨a', b', e, h1, h2, h3, h4, h5⟩ := round_law (n := n) hd (bn.le (by decide)) hp
  have e2 : rheF (some (n, d)) p = some (a', b') := by unfold rheF; dsimp only; rw [if_pos (by omega), e]
  refine Fn.mono (rhe_ok (.some H) (.some (bn.le (by decide)) (bd.le (by decide))) (.inr hp)) fun news' r P => ?_
  rw [e2] at P
  exact P.toF ⟨h1, h2, h3, h4, h5⟩
theorem sig_none {w : World} {mean : ExcName → Option Value} {mg mb : Str → Option Value} {news : Led} {g : Int} {t : Tok} (hg : 0 ≤ g ∧ g ≤ 24) : Fn w mean mg mb 128 4 news [.none, .int g t] (PV news none) :=
  Fn.mono (signif_ok (x := none) .none .none hg) fun _ _ ⟨_, e, P⟩ => by rw [show _ = none from e] at P; exact P
theorem sig_top {w : World} {mean : ExcName → Option Value} {mg mb : Str → Option Value} {news : Led} {a : Addr} {n d g : Int} {t : Tok} (H : Tp news a n d) (bn : Bd 60 n) (bd : Bd 60 d) (h : ¬ (0 < d ∧ n ≠ 0 ∧ g ≤ 22)) (hg : 0 ≤ g ∧ g ≤ 24) : Fn w mean mg mb 128 4 news [.ref a, .int g t] (PV news (some (n, d))) :=
  Fn.mono (signif_ok (.some H) (.some (bn.le (by decide)) (bd.le (by decide))) hg) fun _ _ ⟨z, e, P⟩ => by
    unfold SigR at e
    dsimp only at e
    rw [if_neg h] at e
    rw [e] at P; exact P
theorem sig_fin {w : World} {mean : ExcName → Option Value} {mg mb : Str → Option Value} {news : Led} {a : Addr} {n d g : Int} {t : Tok} (H : Tp news a n d) (hd : 0 < d) (hn : n ≠ 0) (bn : Bd 60 n) (bd : Bd 60 d) (hg : 0 ≤ g ∧ g ≤ 22) : Fn w mean mg mb 128 4 news [.ref a, .int g t] (PF news (fun p q => ∃ c, IsExp n.natAbs d c ∧ -32 ≤ c ∧ c ≤ 32 ∧ NearS n d ((if 1 > g then 1 else g) - 1 - c) p q)) :=
  Fn.mono (signif_ok (.some H) (.some (bn.le (by decide)) (bd.le (by decide))) ⟨hg.1, by omega⟩) fun _ _ ⟨z, e, P⟩ => by
    unfold SigR at e
    dsimp only at e
    rw [if_pos ⟨hd, hn, hg.2⟩] at e
    obtain ⟨c, hc, e⟩ := e
    have bN : Bd 100 (n.natAbs : Int) := by have := bn.le (show 60 ≤ 100 by decide); unfold Bd at *; omega
    have hb := hc.bound (by omega) hd bN (bd.le (by decide))
    obtain ⟨a', b', e2, h1, h2, h3, h4, h5⟩ := round_law (n := n) (p := (if 1 > g then 1 else g) - 1 - c) hd (bn.le (by decide)) (by split <;> omega)
    rw [e, e2] at P
    exact P.toF ⟨c, hc, hb.1, hb.2, h1, h2, h3, h4, h5⟩
theorem red_same {w : World} {mean : ExcName → Option Value} {mg mb : Str → Option Value} {news : Led} {n d : Int} {t u : Tok} (hd0 : 0 < d) (e : red n d = (n, d)) (bd : Bd 900 d) : Fn w mean mg mb 163 1 news [.int n t, .int d u] (PV news (some (n, d))) := by
  have h := reduced_ok (w := w) (mean := mean) (mg := mg) (mb := mb) (news := news) (n := n) (t := t) (u := u) hd0 (bd.le (by decide))
  rw [e] at h; exact h
theorem near_true {w : World} {mean : ExcName → Option Value} {mg mb : Str → Option Value} {news : Led} {a b : Addr} {n d p q un ud : Int} {t u : Tok} (H : Tp news a n d) (H2 : Tp news b p q) (hq : 0 < q) (hun : 0 < un) (b1 : Bd 900 n) (b2 : Bd 900 d) (b3 : Bd 900 p) (b4 : Bd 900 q) (b5 : Bd 900 un) (b6 : Bd 900 ud) (e : nearB n d p q un ud = true) : Fn w mean mg mb 184 2 news [.ref a, .ref b, .int un t, .int ud u] (PB news (fun r => r = .bool true)) := by
  rw [← e]
  exact nearest_ok H H2 hq hun (b1.le (by decide)) (b2.le (by decide)) (b3.le (by decide)) (b4.le (by decide)) (b5.le (by decide)) (b6.le (by decide))
theorem int_div_g {w : World} {mean : ExcName → Option Value} {mg mb : Str → Option Value} {news : Led} {v u : Value} {x y : V} (hv : VIn news v x) (hu : VIn news u y) (gx : GoodV x) (gy : GoodV y) : Fn w mean mg mb 135 4 news [v, u] (PV news (intDivF x y)) := int_div_ok hv hu gx.vb gy.vb
theorem remainder_g {w : World} {mean : ExcName → Option Value} {mg mb : Str → Option Value} {news : Led} {v u : Value} {x y : V} (hv : VIn news v x) (hu : VIn news u y) (gx : GoodV x) (gy : GoodV y) : Fn w mean mg mb 142 5 news [v, u] (PV news (remF x y)) := remainder_ok hv hu gx.vb gy.vb
theorem VIn.drop {a : Addr} {o : Obj} {l : Led} {v : Value} {x : V} (ro : RowAt o) (h : VIn ((a, o) :: l) v x) : VIn l v x := by
  cases h with
  | none => exact .none
  | some H =>
    rcases H with h | h | ⟨t, u, hm⟩
    · exact .some (.inl h)
    · exact .some (.inr (.inl h))
    · rcases List.mem_cons.mp hm with e | hm
      · have e2 := congrArg Prod.snd e
        exact absurd (congrArg Obj.cls e2.symm) ro.cls
      · exact .some (.inr (.inr ⟨t, u, hm⟩))
theorem exp_up2 {n d c : Int} (h : IsExp n.natAbs d c) (hn : n ≠ 0) (hd : 0 < d) {k e : Nat} (ee : e = k + 1) : 10 ^ e * d ≤ (if n < 0 then -n else n) ↔ (k : Int) + 1 ≤ c := by
  subst ee
  rw [absI_nat]
  exact exp_up h (by omega) hd k
theorem exp_dn2 {n d c : Int} (h : IsExp n.natAbs d c) (hn : n ≠ 0) (hd : 0 < d) {j e : Nat} (ee : e = j) : (if n < 0 then -n else n) * 10 ^ e < d ↔ c < -(j : Int) := by
  subst ee
  rw [absI_nat]
  exact exp_dn h (by omega) hd e
theorem frPutL {h₀ h : Heap} {L : Addr} {m : Str → Option Value} {l : List (Str × Value)} (F : Fr h₀ L h m) (e : ∀ p ∈ l, m p.1 = some p.2) : Fr h₀ L h (putAll m l) := frTo F (putAll_eq e)
theorem frPut7 {h₀ h : Heap} {L : Addr} {m : Str → Option Value} {x1 x2 x3 x4 x5 x6 x7 : Str} {v1 v2 v3 v4 v5 v6 v7 : Value} (F : Fr h₀ L h m) (e1 : m x1 = some v1) (e2 : m x2 = some v2) (e3 : m x3 = some v3) (e4 : m x4 = some v4) (e5 : m x5 = some v5) (e6 : m x6 = some v6) (e7 : m x7 = some v7) :
    Fr h₀ L h (putAll m [(x1, v1), (x2, v2), (x3, v3), (x4, v4), (x5, v5), (x6, v6), (x7, v7)]) :=
  frPutL F fun p hp => by
    simp only [List.mem_cons, List.not_mem_nil, or_false] at hp
    rcases hp with rfl | rfl | rfl | rfl | rfl | rfl | rfl <;> assumption
/-- the end of a while's turn, of the frame and the ledger -/
def WFr (g : Heap) (L : Addr) (full : Led) (J : Nat → (Str → Option Value) → Prop) (s : Shared) (Q : Flow → Shared → Prop) (n : Nat) (f : Flow) (s₂ : Shared) : Prop :=
  match f with
  | .ret v => Q (.ret v) s₂
  | .brk => Q .next s₂
  | _ => ∃ k h tk m' full', k < n ∧ s₂ = { s with heap := h, toks := tk } ∧ Fr g L h m' ∧ News g L h full' ∧ (∀ p ∈ full, p ∈ full') ∧ J k m'
theorem WFr.next {g h : Heap} {L : Addr} {full full' : Led} {J : Nat → (Str → Option Value) → Prop} {s : Shared} {Q : Flow → Shared → Prop} {n k tk : Nat} {m' : Str → Option Value} (F : Fr g L h m') (N : News g L h full') (S : ∀ p ∈ full, p ∈ full') (hk : k < n) (hj : J k m') : WFr g L full J s Q n .next { s with heap := h, toks := tk } :=
  ⟨_, _, _, _, _, hk, rfl, F, N, S, hj⟩
/-- the end of a while -/
def WOut (g : Heap) (L : Addr) (full : Led) (K : (Str → Option Value) → Prop) (s : Shared) (Q : Flow → Shared → Prop) (f : Flow) (s₂ : Shared) : Prop :=
  match f with
  | .next => ∃ h tk m' full', s₂ = { s with heap := h, toks := tk } ∧ Fr g L h m' ∧ News g L h full' ∧ (∀ p ∈ full, p ∈ full') ∧ K m'
  | f => Q f s₂
theorem WOut.mk {g h : Heap} {L : Addr} {full full' : Led} {K : (Str → Option Value) → Prop} {s : Shared} {Q : Flow → Shared → Prop} {tk : Nat} {m' : Str → Option Value} (F : Fr g L h m') (N : News g L h full') (S : ∀ p ∈ full, p ∈ full') (hj : K m') : WOut g L full K s Q .next { s with heap := h, toks := tk } :=
  ⟨_, _, _, _, rfl, F, N, S, hj⟩
theorem while_fr {prog : Program} {w : World} {A : Around} {E : Value → Shared → Prop} {s : Shared} {env : Env} {test : PySem.Expr} {body : List Stmt} {Q : Flow → Shared → Prop} {pos : Pos} {g : Heap} {L : Addr} {m : Str → Option Value} {full : Led}
    (hE : PassesOwn (model prog w) A env E) (F : Fr g L s.heap m) (N : News g L s.heap full) (J : Nat → (Str → Option Value) → Prop) (K : (Str → Option Value) → Prop) (n : Nat) (hj : J n m)
    (turn : ∀ n h tk m', J n m' → Fr g L h m' → News g L h full → wpAny (model prog w) A (isTrue test env (eval test env)) (fun b s₂ => WhlIf b (wpAny (model prog w) A (execs body env) (WFr g L full J s Q n) E s₂) (wpAny (model prog w) A (execs [] env) (WOut g L full K s Q) E s₂)) E { s with heap := h, toks := tk })
    (done : ∀ h tk m', K m' → Fr g L h m' → News g L h full → Q .next { s with heap := h, toks := tk }) :
    wpAny (model prog w) A (exec (.While test body [] pos) env) Q E s := by
  refine while_ind (I := fun n s' => ∃ h tk m', s' = { s with heap := h, toks := tk } ∧ J n m' ∧ Fr g L h m' ∧ News g L h full) hE ?_ n ⟨s.heap, s.toks, m, rfl, hj, F, N⟩
  rintro n s' ⟨h, tk, m', rfl, hJ, F', N'⟩
  refine wpAny_mono (turn n h tk m' hJ F' N') (fun b s₂ h₂ => ?_) fun _ _ e => e
  cases b with
  | false =>
    refine WhlIf.no rfl ?_
    unfold WhlIf at h₂
    rw [if_neg Bool.false_ne_true] at h₂
    refine wpAny_mono h₂ (fun f s₃ h₃ => ?_) fun _ _ e => e
    cases f with
    | next =>
      obtain ⟨h, tk, m', full', e, F2, N2, S2, hK⟩ := h₃
      rw [e]
      exact done h tk m' hK F2 fun p hp => N2 p (S2 p hp)
    | cont => exact h₃
    | brk => exact h₃
    | ret v => exact h₃
  | true =>
    refine WhlIf.yes rfl ?_
    unfold WhlIf at h₂
    rw [if_pos rfl] at h₂
    refine wpAny_mono h₂ (fun f s₃ h₃ => ?_) fun _ _ e => e
    have fin : (∃ k h tk m' full', k < n ∧ s₃ = { s with heap := h, toks := tk } ∧ Fr g L h m' ∧ News g L h full' ∧ (∀ p ∈ full, p ∈ full') ∧ J k m') → ∃ k, k < n ∧ ∃ h tk m', s₃ = { s with heap := h, toks := tk } ∧ J k m' ∧ Fr g L h m' ∧ News g L h full := by
      rintro ⟨k, h, tk, m', full', hk, e, F2, N2, S2, hJ2⟩
      exact ⟨k, hk, h, tk, m', e, hJ2, F2, fun p hp => N2 p (S2 p hp)⟩
    cases f with
    | next => exact fin h₃
    | cont => exact fin h₃
    | brk => exact h₃
    | ret v => exact h₃
def Mark : Prop := True


theorem reg19 : True := by
  k_with "z call ref" => (k_here; (with_reducible show wpAny _ _ (call (Value.ref 114) [(Value.ref _), _]) _ _ _); k_dflt (refine' Fn.use (rhe_fin ?zzv1 ?zzv2 ?zzv3 ?zzv4 ?zzv5) ?zzk1 ?zzk2 ?zzk3 ?zzk4 ?zzk5 ?zzk6 ?zzkd ?zzku ?_; (case zzk1 => k_asm); (case zzk2 => k_asm); (case zzk4 => k_asm); (case zzk3 => k_asm); (case zzk5 => k_asm); (case zzv1 => walk_at "my_tp"); (case zzv2 => assumption); (case zzv3 => assumption); (case zzv4 => assumption); (case zzv5 => omega); (case zzk6 => first | exact rfl | assumption); (case zzkd => walk_at "my_room"); (case zzku => walk_at "my_room"); k_whole); intro r9 news9 h9 tk9 F9 N9 P9; k_dflt (obtain ⟨tl9, a9, p9, q9, e9, o9, e8, T9, s1, s2, s3, s4, s5⟩ := P9; subst e9; subst e8); (try dsimp only); (try k_fold))
  k_with "z call ref" => (k_here; (with_reducible show wpAny _ _ (call (Value.ref 114) [(Value.ref _), _]) _ _ _); k_dflt (refine' Fn.use (rhe_top ?zzv1 ?zzv2 ?zzv3 ?zzv4 ?zzv5) ?zzk1 ?zzk2 ?zzk3 ?zzk4 ?zzk5 ?zzk6 ?zzkd ?zzku ?_; (case zzk1 => k_asm); (case zzk2 => k_asm); (case zzk4 => k_asm); (case zzk3 => k_asm); (case zzk5 => k_asm); (case zzv1 => walk_at "my_tp"); (case zzv2 => assumption); (case zzv3 => assumption); (case zzv4 => omega); (case zzv5 => omega); (case zzk6 => first | exact rfl | assumption); (case zzkd => walk_at "my_room"); (case zzku => walk_at "my_room"); k_whole); intro r9 news9 h9 tk9 F9 N9 P9; k_dflt (obtain ⟨tl9, e9, o9, v9⟩ := P9; subst e9; cases v9); (try dsimp only); (try k_fold))
  k_with "z call ref" => (k_here; (with_reducible show wpAny _ _ (call (Value.ref 114) [Value.none, _]) _ _ _); k_dflt (refine' Fn.use (rhe_none ?zzv1) ?zzk1 ?zzk2 ?zzk3 ?zzk4 ?zzk5 ?zzk6 ?zzkd ?zzku ?_; (case zzk1 => k_asm); (case zzk2 => k_asm); (case zzk4 => k_asm); (case zzk3 => k_asm); (case zzk5 => k_asm); (case zzv1 => omega); (case zzk6 => first | exact rfl | assumption); (case zzkd => walk_at "my_room"); (case zzku => walk_at "my_room"); k_whole); intro r9 news9 h9 tk9 F9 N9 P9; k_dflt (obtain ⟨tl9, e9, o9, v9⟩ := P9; subst e9; cases v9); (try dsimp only); (try k_fold))
  k_with "z call ref" => (k_here; (with_reducible show wpAny _ _ (call (Value.ref 128) [(Value.ref _), _]) _ _ _); k_dflt (refine' Fn.use (sig_fin ?zzv1 ?zzv2 ?zzv3 ?zzv4 ?zzv5 ?zzv6) ?zzk1 ?zzk2 ?zzk3 ?zzk4 ?zzk5 ?zzk6 ?zzkd ?zzku ?_; (case zzk1 => k_asm); (case zzk2 => k_asm); (case zzk4 => k_asm); (case zzk3 => k_asm); (case zzk5 => k_asm); (case zzv1 => walk_at "my_tp"); (case zzv2 => assumption); (case zzv3 => assumption); (case zzv4 => assumption); (case zzv5 => assumption); (case zzv6 => omega); (case zzk6 => first | exact rfl | assumption); (case zzkd => walk_at "my_room"); (case zzku => walk_at "my_room"); k_whole); intro r9 news9 h9 tk9 F9 N9 P9; k_dflt (obtain ⟨tl9, a9, p9, q9, e9, o9, e8, T9, c9, i9, c8, c7, s1, s2, s3, s4, s5⟩ := P9; subst e9; subst e8); (try dsimp only); (try k_fold))
  k_with "z call ref" => (k_here; (with_reducible show wpAny _ _ (call (Value.ref 128) [(Value.ref _), _]) _ _ _); k_dflt (refine' Fn.use (sig_top ?zzv1 ?zzv2 ?zzv3 ?zzv4 ?zzv5) ?zzk1 ?zzk2 ?zzk3 ?zzk4 ?zzk5 ?zzk6 ?zzkd ?zzku ?_; (case zzk1 => k_asm); (case zzk2 => k_asm); (case zzk4 => k_asm); (case zzk3 => k_asm); (case zzk5 => k_asm); (case zzv1 => walk_at "my_tp"); (case zzv2 => assumption); (case zzv3 => assumption); (case zzv4 => omega); (case zzv5 => omega); (case zzk6 => first | exact rfl | assumption); (case zzkd => walk_at "my_room"); (case zzku => walk_at "my_room"); k_whole); intro r9 news9 h9 tk9 F9 N9 P9; k_dflt (obtain ⟨tl9, e9, o9, v9⟩ := P9; subst e9; cases v9); (try dsimp only); (try k_fold))
  k_with "z call ref" => (k_here; (with_reducible show wpAny _ _ (call (Value.ref 128) [Value.none, _]) _ _ _); k_dflt (refine' Fn.use (sig_none ?zzv1) ?zzk1 ?zzk2 ?zzk3 ?zzk4 ?zzk5 ?zzk6 ?zzkd ?zzku ?_; (case zzk1 => k_asm); (case zzk2 => k_asm); (case zzk4 => k_asm); (case zzk3 => k_asm); (case zzk5 => k_asm); (case zzv1 => omega); (case zzk6 => first | exact rfl | assumption); (case zzkd => walk_at "my_room"); (case zzku => walk_at "my_room"); k_whole); intro r9 news9 h9 tk9 F9 N9 P9; k_dflt (obtain ⟨tl9, e9, o9, v9⟩ := P9; subst e9; cases v9); (try dsimp only); (try k_fold))
  k_with "z call ref" => (k_here; (with_reducible show wpAny _ _ (call (Value.ref 163) [_, _]) _ _ _); k_dflt (refine' Fn.use (red_same ?zzv1 ?zzv2 ?zzv3) ?zzk1 ?zzk2 ?zzk3 ?zzk4 ?zzk5 ?zzk6 ?zzkd ?zzku ?_; (case zzk1 => k_asm); (case zzk2 => k_asm); (case zzk4 => k_asm); (case zzk3 => k_asm); (case zzk5 => k_asm); (case zzv1 => assumption); (case zzv2 => assumption); (case zzv3 => assumption); (case zzk6 => first | exact rfl | assumption); (case zzkd => walk_at "my_room"); (case zzku => walk_at "my_room"); k_whole); intro r9 news9 h9 tk9 F9 N9 P9; k_dflt (obtain ⟨tl9, e9, o9, v9⟩ := P9; subst e9; cases v9); (try dsimp only); (try k_fold))
  k_with "z call ref" => (k_here; (with_reducible show wpAny _ _ (call (Value.ref 184) [_, _, _, _]) _ _ _); k_dflt (refine' Fn.use (near_true ?zzv1 ?zzv2 ?zzv3 ?zzv4 ?zzv5 ?zzv6 ?zzv7 ?zzv8 ?zzv9 ?zzv10 ?zzv11) ?zzk1 ?zzk2 ?zzk3 ?zzk4 ?zzk5 ?zzk6 ?zzkd ?zzku ?_; (case zzk1 => k_asm); (case zzk2 => k_asm); (case zzk4 => k_asm); (case zzk3 => k_asm); (case zzk5 => k_asm); (case zzv1 => walk_at "my_tp"); (case zzv2 => walk_at "my_tp"); (case zzv3 => assumption); (case zzv4 => walk_at "my_pos"); (case zzv5 => walk_at "my_bd"); (case zzv6 => walk_at "my_bd"); (case zzv7 => walk_at "my_bd"); (case zzv8 => walk_at "my_bd"); (case zzv9 => walk_at "my_bd"); (case zzv10 => walk_at "my_bd"); (case zzv11 => walk_at "my_near"); (case zzk6 => first | exact rfl | assumption); (case zzkd => walk_at "my_room"); (case zzku => walk_at "my_room"); k_whole); intro r9 news9 h9 tk9 F9 N9 P9; k_dflt (obtain ⟨e9, e8⟩ := P9; subst e9; subst e8); (try dsimp only); (try k_fold))
  k_with "z call ref" => (k_here; (with_reducible show wpAny _ _ (call (Value.ref 135) [_, _]) _ _ _); k_dflt (refine' Fn.use (int_div_g ?zzv1 ?zzv2 ?zzv3 ?zzv4) ?zzk1 ?zzk2 ?zzk3 ?zzk4 ?zzk5 ?zzk6 ?zzkd ?zzku ?_; (case zzk1 => k_asm); (case zzk2 => k_asm); (case zzk4 => k_asm); (case zzk3 => k_asm); (case zzk5 => k_asm); (case zzv1 => walk_at "my_vin"); (case zzv2 => walk_at "my_vin"); (case zzv3 => assumption); (case zzv4 => assumption); (case zzk6 => first | exact rfl | assumption); (case zzkd => walk_at "my_room"); (case zzku => walk_at "my_room"); k_whole); intro r9 news9 h9 tk9 F9 N9 P9; k_dflt (obtain ⟨tl9, e9, o9, v9⟩ := P9; subst e9); (try dsimp only); (try k_fold))
  k_with "z call ref" => (k_here; (with_reducible show wpAny _ _ (call (Value.ref 142) [_, _]) _ _ _); k_dflt (refine' Fn.use (remainder_g ?zzv1 ?zzv2 ?zzv3 ?zzv4) ?zzk1 ?zzk2 ?zzk3 ?zzk4 ?zzk5 ?zzk6 ?zzkd ?zzku ?_; (case zzk1 => k_asm); (case zzk2 => k_asm); (case zzk4 => k_asm); (case zzk3 => k_asm); (case zzk5 => k_asm); (case zzv1 => walk_at "my_vin"); (case zzv2 => walk_at "my_vin"); (case zzv3 => assumption); (case zzv4 => assumption); (case zzk6 => first | exact rfl | assumption); (case zzkd => walk_at "my_room"); (case zzku => walk_at "my_room"); k_whole); intro r9 news9 h9 tk9 F9 N9 P9; k_dflt (obtain ⟨tl9, e9, o9, v9⟩ := P9; subst e9); (try dsimp only); (try k_fold))
  k_with "z call ref" => (k_here; (with_reducible show wpAny _ _ (call (Value.ref 177) [_, _]) _ _ _); k_dflt (refine' Fn.use (divided_ok ?zzv1 ?zzv2 ?zzv3 ?zzv4) ?zzk1 ?zzk2 ?zzk3 ?zzk4 ?zzk5 ?zzk6 ?zzkd ?zzku ?_; (case zzk1 => k_asm); (case zzk2 => k_asm); (case zzk4 => k_asm); (case zzk3 => k_asm); (case zzk5 => k_asm); (case zzv1 => walk_at "my_vin"); (case zzv2 => walk_at "my_vin"); (case zzv3 => assumption); (case zzv4 => assumption); (case zzk6 => first | exact rfl | assumption); (case zzkd => walk_at "my_room"); (case zzku => walk_at "my_room"); k_whole); intro r9 news9 h9 tk9 F9 N9 P9; k_dflt (obtain ⟨tl9, a9, u9, w9, e9, o9, e8, m9, v9, x9⟩ := P9; subst e9; subst e8); (try dsimp only); (try k_fold))
  trivial
theorem reg20 : True := by
  k_with "my_room" => first | ((try dsimp only [ktrTop, Around.deeper]); omega) | ktr_room | ktr_units
  k_with "z call ref" => (k_here; (with_reducible show wpAny _ _ (call (Value.ref 149) [_]) _ _ _); k_dflt (refine' lrow_ok ?zzv1 ?zzv2 _ _ _ _ _ _ _ _ _ _ _ _ _ _ _ _ _ ?zzk1 ?zzk2 ?zzk3 ?zzk4 ?zzk5 ?zzk6 ?zzk7 ?zzkd ?zzku ?_; (case zzk1 => k_asm); (case zzk2 => k_asm); (case zzk4 => k_asm); (case zzk3 => k_asm); (case zzk5 => k_asm); (case zzk7 => assumption); (case zzv1 => assumption); (case zzv2 => omega); (case zzk6 => first | exact rfl | assumption); (case zzkd => walk_at "my_room"); (case zzku => walk_at "my_room"); k_whole); intro r9 news9 h9 tk9 F9 N9 P9; k_dflt (obtain ⟨a9, o9, ro9, e9, e8⟩ := P9; subst e9; subst e8); (try dsimp only); (try k_fold))
  k_with "z call ref" => (k_here; (with_reducible show wpAny _ _ (call (Value.ref 170) [_]) _ _ _); k_dflt (refine' Fn.use (double_ok ?zzv1 ?zzv2) ?zzk1 ?zzk2 ?zzk3 ?zzk4 ?zzk5 ?zzk6 ?zzkd ?zzku ?_; (case zzk1 => k_asm); (case zzk2 => k_asm); (case zzk4 => k_asm); (case zzk3 => k_asm); (case zzk5 => k_asm); (case zzv1 => walk_at "my_off"); (case zzv2 => assumption); (case zzk6 => first | exact rfl | assumption); (case zzkd => walk_at "my_room"); (case zzku => walk_at "my_room"); k_whole); intro r9 news9 h9 tk9 F9 N9 P9; k_dflt (obtain ⟨o9, tl9, x9, ro9, tp9, of9, e9, v9, g9⟩ := P9; subst e9; replace v9 := VIn.drop ro9 v9); (try dsimp only); (try k_fold))
  k_with "my_mem" => first | k_mem | kcj_m
  k_with "z compareOp NotEq ref ref" => (k_here; (with_reducible show wpAny _ _ (compareOp CmpOp.NotEq (Value.ref _) (Value.ref _)) _ _ _); k_dflt (refine' pair_ne_law ?zzX ?zzF ?zzN ?zza ?zzb ?zzh1 ?zzh2 ?zzh3 ?zzh4 ?zze ?zzhu ?_; (case zzF => k_asm); (case zzN => k_asm); (case zzX => k_asm); (case zzb => assumption); (case zza => walk_at "my_mem"); (case zzh3 => assumption); (case zzh4 => assumption); (case zzh1 => walk_at "my_vin"); (case zzh2 => walk_at "my_vin"); (case zze => exact law_div (by assumption) (by assumption)); (case zzhu => walk_at "my_room"); k_whole))
  k_with "z exec For Name List cons nil" => (refine Stop.mk ?_)
  k_with "z exec For Tuple List cons nil" => (refine Stop.mk ?_)
  k_with "z pyIter ref" => (refine Stop.mk ?_)
  trivial
/-- the end of a turn of a for over a made list: the ledger «base» stands still, of the frame J is told -/
def TurnEnd (h₀ : Heap) (L : Addr) (base : Led) (q : Addr × Obj) (J : (Str → Option Value) → Prop) (s₁ : Shared) (Q : Flow → Shared → Prop) (f : Flow) (s₂ : Shared) : Prop :=
  match f with
  | .ret v => Q (.ret v) s₂
  | .brk => Q .next s₂
  | _ => ∃ h' tk m' full, s₂ = { s₁ with heap := h', toks := tk } ∧ Fr h₀ L h' m' ∧ News h₀ L h' full ∧ (∀ p ∈ q :: base, p ∈ full) ∧ J m'
section
variable {prog : Program} {w : World} {A : Around} {E : Value → Shared → Prop} {s : Shared} {env : Env} {h₀ : Heap} {target : PySem.Expr} {body : List Stmt} {Q : Flow → Shared → Prop}
theorem for_list {vs : List Value} {l : Addr} {nn : Nat} {m₀ : Str → Option Value} {base full : Led} (hh : A.handled = none) (F : Fr h₀ env.locals s.heap m₀) (N : News h₀ env.locals s.heap full) (S : ∀ p ∈ base, p ∈ full) (hl : (l, W.listOf vs.toArray nn) ∈ base) (J : (Str → Option Value) → Prop) (hj : J m₀)
    (turn : ∀ v, v ∈ vs → ∀ h tk m₁ q, J m₁ → Fr h₀ env.locals h m₁ → News h₀ env.locals h (q :: base) →
      wpAny (model prog w) A (assign target env v) (fun _ s₂ => wpAny (model prog w) A (execs body env) (TurnEnd h₀ env.locals base q J { s with heap := h, toks := tk } Q) E s₂) E { s with heap := h, toks := tk })
    (done : ∀ h tk m₁, J m₁ → Fr h₀ env.locals h m₁ → News h₀ env.locals h base → Q .next { s with heap := h, toks := tk }) :
    wpAny (model prog w) A (pyIter (.ref l)) (fun it s₂ => TurnsAt prog w A h₀ env target body Q E it s₂) E s := by
  refine iter_listTurns (lo := W.listOf vs.toArray nn) (vs := vs) (n := nn) hh F (fun p hp => N p (S p hp)) hl rfl rfl fun I hI => ?_
  have all : ∀ xs : List Value, (∀ v ∈ xs, v ∈ vs) → ∀ m₁, J m₁ → ItemsRest prog w A E h₀ env target body Q s [(I, "list_iterator")] [(l, W.listOf vs.toArray nn)] (xs.map .val) m₁ base := by
    intro xs
    induction xs with
    | nil => exact fun _ m₁ hJ => ItemsRest.zero fun h tk F' N' => done h tk m₁ hJ F' N'
    | cons v xs ih =>
      intro hv m₁ hJ
      refine ItemsRest.val fun h tk F' => AllObj.cons fun o ho => AllObj.nil fun N' => ?_
      refine wpAny_mono (turn v (hv v (.head _)) h tk m₁ (I, o) hJ F' N') (fun _ s₂ h₂ => wpAny_mono h₂ (fun f s₃ p => ?_) fun _ _ e => e) fun _ _ e => e
      have fin : (∃ h' tk' m' full, s₃ = { ({ s with heap := h, toks := tk } : Shared) with heap := h', toks := tk' } ∧ Fr h₀ env.locals h' m' ∧ News h₀ env.locals h' full ∧ (∀ p ∈ (I, o) :: base, p ∈ full) ∧ J m') →
          UnrEndW h₀ env.locals { s with heap := h, toks := tk } [(I, o)] (fun m' n' => SubL [(l, W.listOf vs.toArray nn)] n' ∧ ItemsRest prog w A E h₀ env target body Q s [(I, "list_iterator")] [(l, W.listOf vs.toArray nn)] (xs.map .val) m' n') s₃ := by
        rintro ⟨h', tk', m', full', e, F2, N2, S2, hJ2⟩
        exact ⟨h', tk', m', base, e, F2, fun p hp => N2 p (S2 p hp), fun p hp q hq => by rw [List.mem_singleton.mp hq]; exact Nat.ne_of_lt (hI p hp), ⟨hl, trivial⟩, ih (fun u hu => hv u (.tail _ hu)) m' hJ2⟩
      cases f with
      | ret v => exact p
      | brk => exact p
      | next => exact fin p
      | cont => exact fin p
  exact all vs (fun _ h => h) m₀ hj
end
theorem reg21 : True := by
  k_with "my_near" => exact near_cast (by assumption) (by omega) (by omega)
  k_with "z compareOp NotEq ref ref" => (k_here; (with_reducible show wpAny _ _ (compareOp CmpOp.NotEq (Value.ref _) (Value.ref _)) _ _ _); k_dflt (refine' tp_ne_same ?zzX ?zzF ?zzN ?zza ?zzb ?zzhu ?_; (case zzF => k_asm); (case zzN => k_asm); (case zzX => k_asm); (case zza => walk_at "my_tp"); (case zzb => walk_at "my_tp"); (case zzhu => walk_at "my_room"); k_whole))
  k_with "z compareOp Eq ref ref" => (k_here; (with_reducible show wpAny _ _ (compareOp CmpOp.Eq (Value.ref _) (Value.ref _)) _ _ _); k_dflt (refine' tp_eq_same ?zzX ?zzF ?zzN ?zza ?zzb ?zzhu ?_; (case zzF => k_asm); (case zzN => k_asm); (case zzX => k_asm); (case zza => walk_at "my_tp"); (case zzb => walk_at "my_tp"); (case zzhu => walk_at "my_room"); k_whole))
  trivial
theorem TurnEnd.next {h₀ h' : Heap} {L : Addr} {base full : Led} {q : Addr × Obj} {J : (Str → Option Value) → Prop} {s₁ : Shared} {Q : Flow → Shared → Prop} {tk : Nat} {m' : Str → Option Value} (F : Fr h₀ L h' m') (N : News h₀ L h' full) (S : ∀ p ∈ q :: base, p ∈ full) (hj : J m') : TurnEnd h₀ L base q J s₁ Q .next { s₁ with heap := h', toks := tk } := ⟨_, _, _, _, rfl, F, N, S, hj⟩
theorem TurnEnd.cont {h₀ h' : Heap} {L : Addr} {base full : Led} {q : Addr × Obj} {J : (Str → Option Value) → Prop} {s₁ : Shared} {Q : Flow → Shared → Prop} {tk : Nat} {m' : Str → Option Value} (F : Fr h₀ L h' m') (N : News h₀ L h' full) (S : ∀ p ∈ q :: base, p ∈ full) (hj : J m') : TurnEnd h₀ L base q J s₁ Q .cont { s₁ with heap := h', toks := tk } := ⟨_, _, _, _, rfl, F, N, S, hj⟩
theorem reg22 : True := by
  k_with "z exec While IfExp cons nil" => (refine Stop.mk ?_)
  k_with "z call ref" => (k_here; (with_reducible show wpAny _ _ (call (Value.ref 128) _) _ _ _); (with_reducible rename Mark => hM); refine Stop.mk ?_)
  trivial
theorem ledOut {h₀ h : Heap} {L : Addr} {l : Led} (N : News h₀ L h l) : ∃ b, News h₀ L h b ∧ l = b := ⟨l, N, rfl⟩
set_option maxHeartbeats 0 in
theorem law_holds : PySem.Challenge.rw_nz0466_01.Holds := hd (by
  w_on
  w_strict k_go0
  all_goals (try k_fold)
  k_steps
  unfold Stop
  rename Fr _ _ _ _ => F2
  with_unfolding_all refine For_turns F2 ?_
  k_steps
  unfold Stop
  rename_i v1 _ _ _ _ x1 _ _ _ g1 V1 _ _ v2 _ _ _ _ _ _ _ _ _ _ _ _ _ _ _ _ _ sp _ _ _ _ _ _ _ _ _ _ _ _ _ _ _ _ _ D1 _ l1 D2 _ l2 L3 _ F3 N3 l3
  rename VIn (tl9 ++ _) _ _ => V2
  rename GoodV x9 => g2
  obtain ⟨x2, hx⟩ : ∃ y, y = x9 := ⟨_, rfl⟩
  subst hx
  obtain ⟨dg, hx⟩ : ∃ y, y = r9 := ⟨_, rfl⟩
  subst hx
  clear l1 l2 l3
  obtain ⟨bs, Nb, eb⟩ := ledOut N3
  have hL : (L3, W.listOf (List.toArray [Value.ref D1, Value.ref D2]) 0) ∈ bs := by rw [← eb]; exact .head _
  have hD2 : (D2, ({ cls := .type "tuple", data := .seq #[v2, v1] } : Obj)) ∈ bs := by rw [← eb]; exact .tail _ (.head _)
  have hD1 : (D1, ({ cls := .type "tuple", data := .seq #[v1, v2] } : Obj)) ∈ bs := by rw [← eb]; exact .tail _ (.tail _ (.head _))
  replace V1 : VIn bs v1 x1 := by rw [← eb]; exact VIn.mono (by walk_at "my_sub") V1
  replace V2 : VIn bs v2 x2 := by rw [← eb]; exact VIn.mono (by walk_at "my_sub") V2
  clear eb
  clear N3
  refine for_list (vs := [.ref D1, .ref D2]) rfl F3 Nb (fun _ h => h) hL (fun m => m (Str.ofString "x") = some v1 ∧ m (Str.ofString "y") = some v2 ∧ (∃ t, m (Str.ofString "spots") = some (.int (sp - 5) t)) ∧ (∃ t, m (Str.ofString "digits") = some (.int dg t))) ⟨rfl, rfl, ⟨_, rfl⟩, ⟨_, rfl⟩⟩ ?_ ?_
  · intro v hv h tk m₁ q ⟨e1, e2, ⟨_, e3⟩, ⟨_, e4⟩⟩ F4 N4
    clear F3 Nb
    replace F4 := frPut4 F4 e1 e2 e3 e4
    clear e1 e2 e3 e4
    obtain ⟨T, p, r, xp, xr, rfl, hT, Vp, Vr, gp, gr⟩ : ∃ T p r xp xr, v = .ref T ∧ (T, ({ cls := .type "tuple", data := .seq #[p, r] } : Obj)) ∈ bs ∧ VIn bs p xp ∧ VIn bs r xr ∧ GoodV xp ∧ GoodV xr := by
      rcases List.mem_cons.mp hv with rfl | hv
      · exact ⟨_, _, _, _, _, rfl, hD1, V1, V2, g1, g2⟩
      · rw [List.mem_singleton.mp hv]
        exact ⟨_, _, _, _, _, rfl, hD2, V2, V1, g2, g1⟩
    have hI : IsTup h T #[p, r] := News.isTup N4 (.tail _ hT)
    k_steps
    rename Fr _ _ _ _ => F5
    rename News _ _ _ _ => N5
    exact TurnEnd.next F5 N5 (by walk_at "my_sub") ⟨rfl, rfl, ⟨_, rfl⟩, ⟨_, rfl⟩⟩
  · intro h tk m₁ ⟨e1, e2, ⟨_, e3⟩, ⟨_, e4⟩⟩ F4 N4
    clear F3 Nb hL hD1 hD2 D1 D2 L3
    replace F4 := frPut4 F4 e1 e2 e3 e4
    clear e1 e2 e3 e4
    k_steps
    unfold Stop
    with_unfolding_all refine For_turns F4 ?_
    k_steps
    unfold Stop
    rename_i L4 _ F5 N5 l5
    clear l5
    obtain ⟨bs2, Nb, eb⟩ := ledOut N5
    clear N5
    have hL : (L4, W.listOf (List.toArray [v1, v2]) 0) ∈ bs2 := by rw [← eb]; exact .head _
    replace V1 : VIn bs2 v1 x1 := by rw [← eb]; exact VIn.mono (by walk_at "my_sub") V1
    replace V2 : VIn bs2 v2 x2 := by rw [← eb]; exact VIn.mono (by walk_at "my_sub") V2
    clear eb
    refine for_list (vs := [v1, v2]) rfl F5 Nb (fun _ h => h) hL (fun m => m (Str.ofString "x") = some v1 ∧ m (Str.ofString "y") = some v2 ∧ (∃ t, m (Str.ofString "spots") = some (.int (sp - 5) t)) ∧ (∃ t, m (Str.ofString "digits") = some (.int dg t))) ⟨rfl, rfl, ⟨_, rfl⟩, ⟨_, rfl⟩⟩ ?_ ?_
    · intro v hv h tk m₁ q ⟨e1, e2, ⟨_, e3⟩, ⟨_, e4⟩⟩ F6 N6
      clear F5 Nb
      replace F6 := frPut4 F6 e1 e2 e3 e4
      clear e1 e2 e3 e4
      obtain ⟨xp, Vp, gp⟩ : ∃ xp, VIn bs2 v xp ∧ GoodV xp := by
        rcases List.mem_cons.mp hv with rfl | hv
        · exact ⟨_, V1, g1⟩
        · rw [List.mem_singleton.mp hv]
          exact ⟨_, V2, g2⟩
      clear hv V1 V2 g1 g2 hL
      cases Vp with
      | none =>
        k_steps
        rename Fr _ _ _ _ => F7
        rename News _ _ _ _ => N7
        exact TurnEnd.cont F7 N7 (by walk_at "my_sub") ⟨rfl, rfl, ⟨_, rfl⟩, ⟨_, rfl⟩⟩
      | some H =>
        obtain ⟨b1, b2, gp⟩ := gp
        rcases gp with ⟨rfl, _⟩ | ⟨hd, _⟩
        · k_steps
          rename Fr _ _ _ _ => F7
          rename News _ _ _ _ => N7
          exact TurnEnd.cont F7 N7 (by walk_at "my_sub") ⟨rfl, rfl, ⟨_, rfl⟩, ⟨_, rfl⟩⟩
        · rename_i ao n d _
          have hM : Mark := True.intro
          k_steps
          all_goals (try (exfalso; omega))
          unfold Stop
          rename Mark => hM
          clear hM
          by_cases hc : n = 0 ∨ 22 < dg
          · k_steps
            all_goals first
              | (exfalso; omega)
              | (rename Fr _ _ _ _ => F7; rename News _ _ _ _ => N7; exact TurnEnd.cont F7 N7 (by walk_at "my_sub") ⟨rfl, rfl, ⟨_, rfl⟩, ⟨_, rfl⟩⟩)
          · have hn : n ≠ 0 := by omega
            have hg : dg ≤ 22 := by omega
            clear hc
            k_steps
            all_goals (try (exfalso; omega))
            unfold Stop
            rename Fr _ _ _ _ => F7
            rename News _ _ _ _ => N7
            obtain ⟨c, hx⟩ : ∃ y, y = c9 := ⟨_, rfl⟩
            subst hx
            (try clear F6 N6)
            refine while_fr (by walk_at "my_pe") F7 N7 (fun μ m => ∃ (k : Nat) (tp : Int) (t : Tok), m (Str.ofString "top") = some (.int tp t) ∧ tp = (k : Int) ∧ (k = 0 ∨ (k : Int) ≤ c) ∧ (c - k).toNat = μ ∧ m (Str.ofString "one") = some (.ref ao) ∧ m (Str.ofString "told") = some (.ref a9) ∧ m (Str.ofString "x") = some v1 ∧ m (Str.ofString "y") = some v2 ∧ (∃ t, m (Str.ofString "spots") = some (.int (sp - 5) t)) ∧ (∃ t, m (Str.ofString "digits") = some (.int dg t)))
              (fun m => ∃ (tp : Int) (t : Tok), m (Str.ofString "top") = some (.int tp t) ∧ c ≤ tp ∧ tp ≤ 32 ∧ (tp ≤ 0 ∨ tp ≤ c) ∧ m (Str.ofString "one") = some (.ref ao) ∧ m (Str.ofString "told") = some (.ref a9) ∧ m (Str.ofString "x") = some v1 ∧ m (Str.ofString "y") = some v2 ∧ (∃ t, m (Str.ofString "spots") = some (.int (sp - 5) t)) ∧ (∃ t, m (Str.ofString "digits") = some (.int dg t))) (c - 0).toNat ⟨0, 0, _, rfl, rfl, .inl rfl, rfl, rfl, rfl, rfl, rfl, ⟨_, rfl⟩, ⟨_, rfl⟩⟩ ?_ ?_
            · rintro μ h' tk' m' ⟨k, tp, _, e1, htp, hk, hμ, e2, e3, e4, e5, ⟨_, e6⟩, ⟨_, e7⟩⟩ F8 N8
              clear F7 N7
              replace F8 := frPut7 F8 e1 e2 e3 e4 e5 e6 e7
              clear e1 e2 e3 e4 e5 e6 e7
              have hk2 : tp ≤ 32 := by omega
              k_steps
              · rename Fr _ _ _ _ => F10
                rename News _ _ _ _ => N10
                rename (_ * d ≤ _) => hc
                have hu := (exp_up2 i9 hn hd (k := k) (by omega)).mp hc
                exact WFr.next F10 N10 (by walk_at "my_sub") (show (c - ((k + 1 : Nat) : Int)).toNat < μ by omega) ⟨k + 1, tp + 1, _, rfl, by omega, .inr (by omega), rfl, rfl, rfl, rfl, rfl, ⟨_, rfl⟩, ⟨_, rfl⟩⟩
              · rename Fr _ _ _ _ => F10
                rename News _ _ _ _ => N10
                rename (¬ _ * d ≤ _) => hc
                have hu : ¬ ((k : Int) + 1 ≤ c) := fun h => hc ((exp_up2 i9 hn hd (k := k) (by omega)).mpr h)
                exact WOut.mk F10 N10 (by walk_at "my_sub") ⟨tp, _, rfl, by omega, hk2, by omega, rfl, rfl, rfl, rfl, ⟨_, rfl⟩, ⟨_, rfl⟩⟩
            · intro h' tk' m' ⟨tp, _, e1, hlo, hhi, hk, e2, e3, e4, e5, ⟨_, e6⟩, ⟨_, e7⟩⟩ F8 N8
              clear F7 N7
              replace F8 := frPut7 F8 e1 e2 e3 e4 e5 e6 e7
              clear e1 e2 e3 e4 e5 e6 e7
              k_steps
              unfold Stop
              rename Fr _ _ _ _ => F10
              rename News _ _ _ _ => N10
              refine while_fr (by walk_at "my_pe") F10 N10 (fun μ m => ∃ (tp : Int) (t : Tok), m (Str.ofString "top") = some (.int tp t) ∧ c ≤ tp ∧ tp ≤ 32 ∧ (tp ≤ 0 ∨ tp ≤ c) ∧ (tp - c).toNat = μ ∧ m (Str.ofString "one") = some (.ref ao) ∧ m (Str.ofString "told") = some (.ref a9) ∧ m (Str.ofString "x") = some v1 ∧ m (Str.ofString "y") = some v2 ∧ (∃ t, m (Str.ofString "spots") = some (.int (sp - 5) t)) ∧ (∃ t, m (Str.ofString "digits") = some (.int dg t)))
                (fun m => ∃ (tp : Int) (t : Tok), m (Str.ofString "top") = some (.int tp t) ∧ tp = c ∧ m (Str.ofString "one") = some (.ref ao) ∧ m (Str.ofString "told") = some (.ref a9) ∧ m (Str.ofString "x") = some v1 ∧ m (Str.ofString "y") = some v2 ∧ (∃ t, m (Str.ofString "spots") = some (.int (sp - 5) t)) ∧ (∃ t, m (Str.ofString "digits") = some (.int dg t))) (tp - c).toNat ⟨tp, _, rfl, hlo, hhi, hk, rfl, rfl, rfl, rfl, rfl, ⟨_, rfl⟩, ⟨_, rfl⟩⟩ ?_ ?_
              · rintro μ h' tk' m' ⟨tp', _, e1, hlo', hhi', hk', hμ, e2, e3, e4, e5, ⟨_, e6⟩, ⟨_, e7⟩⟩ F11 N11
                clear F10 N10
                replace F11 := frPut7 F11 e1 e2 e3 e4 e5 e6 e7
                clear e1 e2 e3 e4 e5 e6 e7
                k_steps
                · rename Fr _ _ _ _ => F12
                  rename News _ _ _ _ => N12
                  rename (_ < d) => hc
                  have hu := (exp_dn2 i9 hn hd (j := (-tp').toNat) (by omega)).mp hc
                  exact WFr.next F12 N12 (by walk_at "my_sub") (show (tp' - 1 - c).toNat < μ by omega) ⟨tp' - 1, _, rfl, by omega, by omega, by omega, rfl, rfl, rfl, rfl, rfl, ⟨_, rfl⟩, ⟨_, rfl⟩⟩
                · rename Fr _ _ _ _ => F12
                  rename News _ _ _ _ => N12
                  rename (¬ _ < d) => hc
                  have hu : ¬ (c < -((-tp').toNat : Int)) := fun h => hc ((exp_dn2 i9 hn hd (j := (-tp').toNat) (by omega)).mpr h)
                  have htc : tp' = c := by omega
                  exact WOut.mk F12 N12 (by walk_at "my_sub") ⟨tp', _, rfl, htc, rfl, rfl, rfl, rfl, ⟨_, rfl⟩, ⟨_, rfl⟩⟩
                · rename Fr _ _ _ _ => F12
                  rename News _ _ _ _ => N12
                  have htc : tp' = c := by omega
                  exact WOut.mk F12 N12 (by walk_at "my_sub") ⟨tp', _, rfl, htc, rfl, rfl, rfl, rfl, ⟨_, rfl⟩, ⟨_, rfl⟩⟩
              · intro h' tk' m' ⟨tp', _, e1, htc, e2, e3, e4, e5, ⟨_, e6⟩, ⟨_, e7⟩⟩ F11 N11
                clear F10 N10
                replace F11 := frPut7 F11 e1 e2 e3 e4 e5 e6 e7
                clear e1 e2 e3 e4 e5 e6 e7 hlo hhi hk tp
                k_steps
                rename Fr _ _ _ _ => F12
                rename News _ _ _ _ => N12
                exact TurnEnd.next F12 N12 (by walk_at "my_sub") ⟨rfl, rfl, ⟨_, rfl⟩, ⟨_, rfl⟩⟩
    · intro h tk m₁ ⟨e1, e2, ⟨_, e3⟩, ⟨_, e4⟩⟩ F6 N6
      clear F5 Nb hL
      replace F6 := frPut4 F6 e1 e2 e3 e4
      clear e1 e2 e3 e4
      cases V1 with
      | none =>
        k_steps
      | some H =>
        obtain ⟨b1, b2, _⟩ := g1
        k_steps)



end Mine
set_option maxRecDepth 100000 in
theorem PySem.Challenge.cw_nz0466_01_holds : PySem.Challenge.rw_nz0466_01.Holds := by
  exact Mine.law_holds
