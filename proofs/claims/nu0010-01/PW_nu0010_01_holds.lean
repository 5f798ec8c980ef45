import PyProof.Rows.All
import Wide.All
import OpenK.AllK
import Wide.FinOn
import PySem.Challenge.RW_nu0010_01
set_option Elab.async false
set_option linter.unusedVariables false
set_option maxRecDepth 100000
section
open PySem PySem.W PyProof.Rows
namespace Mine
theorem holdIn {P R Q : Prop} (hl : P) (hc : R) (k : Q) : Q := k
set_option maxRecDepth 100000 in
set_option maxHeartbeats 80000000 in
noncomputable def hd : { T : Prop // T → PySem.Challenge.rw_nu0010_01.Holds } := ⟨_, fun hc0 => by
  w_on
  o_law
  apply holdIn
  case k =>
    k_head
    w_witness2
  case hc => exact hc0
  case hl =>
    intro w
    kernel_rfl⟩
end Mine
end
section
open PySem PySem.W PyProof.Rows
namespace Mine
noncomputable abbrev LS : List PySem.Str := looseW hd.view_39 [PySem.Str.ofString "fraction", PySem.Str.ofString "PI_BOTTOM", PySem.Str.ofString "MORE", PySem.Str.ofString "turn_of", PySem.Str.ofString "tangent_of", PySem.Str.ofString "degrees_of"]

def Cut (w : World) (f : Addr) (k : Nat) (news : List (Addr × Obj)) (vs : List Value) (Out : Value → List (Addr × Obj) → Prop) : Prop :=
  ∀ (mean : ExcName → Option Value) (mg mb : PySem.Str → Option Value) (dp un : Nat) (gd : Option (List Code)) (cn : PySem.Str) (cs : Scope) (a : Addr) (ccd : Value) (cl : List (PySem.Str × Addr)) (outer : List Env) (A₀ : Around) (base h₀ : Heap) (L : Addr) (m : PySem.Str → Option Value) (s : Shared) (Q E : Value → Shared → Prop),
    Below A₀ base outer h₀ → Fr h₀ L s.heap m → (hd.heap_39 w.params).In h₀ → News h₀ L s.heap news → Top hd.view_39 LS mean mg mb h₀ → cs.kind = .function → dp + k < recursionLimit → un + 8 * k < cLine →
    (∀ r tl h' tk', Fr h₀ L h' m → News h₀ L h' (tl ++ news) → Out r tl → Q r { s with heap := h', toks := tk' }) →
    wpAny (model PySem.Challenge.rw_nu0010_01.row.prog w) (ktrTop dp un gd cn cs L a ccd cl outer) (call (.ref f) vs) Q E s

abbrev pairObj (x y : Value) : Obj := { cls := .type "tuple", data := .seq #[x, y] }
def OInt (x : Int) (r : Value) (tl : List (Addr × Obj)) : Prop := tl = [] ∧ ∃ t, r = .int x t
def OBool (x : Bool) (r : Value) (tl : List (Addr × Obj)) : Prop := tl = [] ∧ r = .bool x
def OPair (x y : Int) (r : Value) (tl : List (Addr × Obj)) : Prop := ∃ a t u, r = .ref a ∧ tl = [(a, pairObj (.int x t) (.int y u))]
def OTurn (c0 c1 s0 s1 : Int) (r : Value) (tl : List (Addr × Obj)) : Prop :=
  ∃ a c s t u v z, r = .ref a ∧ tl = [(a, pairObj (.ref c) (.ref s)), (c, pairObj (.int c0 t) (.int c1 u)), (s, pairObj (.int s0 v) (.int s1 z))]

section
variable {w : World} {f : Addr} {k : Nat} {news : List (Addr × Obj)} {vs : List Value} {Out : Value → List (Addr × Obj) → Prop} {mean : ExcName → Option Value} {mg mb : PySem.Str → Option Value} {dp un : Nat} {gd : Option (List Code)} {cn : PySem.Str} {cs : Scope} {a : Addr} {ccd : Value} {cl : List (PySem.Str × Addr)} {outer : List Env} {A₀ : Around} {base h₀ h : Heap} {L : Addr} {m : PySem.Str → Option Value} {s : Shared} {Q E : Value → Shared → Prop}

theorem use_int {x : Int} (C : Cut w f k news vs (OInt x)) (B : Below A₀ base outer h₀) (F : Fr h₀ L s.heap m) (X : (hd.heap_39 w.params).In h₀) (N : News h₀ L s.heap news) (T : Top hd.view_39 LS mean mg mb h₀) (hk : cs.kind = .function) (hdp : dp + k < recursionLimit) (hun : un + 8 * k < cLine)
    (h : ∀ t h' tk', Fr h₀ L h' m → News h₀ L h' news → Q (.int x t) { s with heap := h', toks := tk' }) :
    wpAny (model PySem.Challenge.rw_nu0010_01.row.prog w) (ktrTop dp un gd cn cs L a ccd cl outer) (call (.ref f) vs) Q E s :=
  C _ _ _ _ _ _ _ _ _ _ _ _ _ _ _ _ _ _ _ _ B F X N T hk hdp hun fun r tl h' tk' F' N' o => by
    obtain ⟨rfl, t, rfl⟩ := o
    exact h t h' tk' F' N'
theorem use_bool {x : Bool} (C : Cut w f k news vs (OBool x)) (B : Below A₀ base outer h₀) (F : Fr h₀ L s.heap m) (X : (hd.heap_39 w.params).In h₀) (N : News h₀ L s.heap news) (T : Top hd.view_39 LS mean mg mb h₀) (hk : cs.kind = .function) (hdp : dp + k < recursionLimit) (hun : un + 8 * k < cLine)
    (h : ∀ h' tk', Fr h₀ L h' m → News h₀ L h' news → Q (.bool x) { s with heap := h', toks := tk' }) :
    wpAny (model PySem.Challenge.rw_nu0010_01.row.prog w) (ktrTop dp un gd cn cs L a ccd cl outer) (call (.ref f) vs) Q E s :=
  C _ _ _ _ _ _ _ _ _ _ _ _ _ _ _ _ _ _ _ _ B F X N T hk hdp hun fun r tl h' tk' F' N' o => by
    obtain ⟨rfl, rfl⟩ := o
    exact h h' tk' F' N'
theorem use_pair {x y : Int} (C : Cut w f k news vs (OPair x y)) (B : Below A₀ base outer h₀) (F : Fr h₀ L s.heap m) (X : (hd.heap_39 w.params).In h₀) (N : News h₀ L s.heap news) (T : Top hd.view_39 LS mean mg mb h₀) (hk : cs.kind = .function) (hdp : dp + k < recursionLimit) (hun : un + 8 * k < cLine)
    (h : ∀ a t u h' tk', Fr h₀ L h' m → News h₀ L h' ((a, pairObj (.int x t) (.int y u)) :: news) → Q (.ref a) { s with heap := h', toks := tk' }) :
    wpAny (model PySem.Challenge.rw_nu0010_01.row.prog w) (ktrTop dp un gd cn cs L a ccd cl outer) (call (.ref f) vs) Q E s :=
  C _ _ _ _ _ _ _ _ _ _ _ _ _ _ _ _ _ _ _ _ B F X N T hk hdp hun fun r tl h' tk' F' N' o => by
    obtain ⟨a, t, u, rfl, rfl⟩ := o
    exact h a t u h' tk' F' N'
theorem use_turn {c0 c1 s0 s1 : Int} (C : Cut w f k news vs (OTurn c0 c1 s0 s1)) (B : Below A₀ base outer h₀) (F : Fr h₀ L s.heap m) (X : (hd.heap_39 w.params).In h₀) (N : News h₀ L s.heap news) (T : Top hd.view_39 LS mean mg mb h₀) (hk : cs.kind = .function) (hdp : dp + k < recursionLimit) (hun : un + 8 * k < cLine)
    (h : ∀ a c s₀ t u v z h' tk', Fr h₀ L h' m → News h₀ L h' ((a, pairObj (.ref c) (.ref s₀)) :: (c, pairObj (.int c0 t) (.int c1 u)) :: (s₀, pairObj (.int s0 v) (.int s1 z)) :: news) → Q (.ref a) { s with heap := h', toks := tk' }) :
    wpAny (model PySem.Challenge.rw_nu0010_01.row.prog w) (ktrTop dp un gd cn cs L a ccd cl outer) (call (.ref f) vs) Q E s :=
  C _ _ _ _ _ _ _ _ _ _ _ _ _ _ _ _ _ _ _ _ B F X N T hk hdp hun fun r tl h' tk' F' N' o => by
    obtain ⟨a, c, s₀, t, u, v, z, rfl, rfl⟩ := o
    exact h a c s₀ t u v z h' tk' F' N'

theorem ret_int {x : Int} {t : Tok} {h' : Heap} {tk' : Nat} {big : List (Addr × Obj)} (hret : ∀ r tl h' tk', Fr h₀ L h' m → News h₀ L h' (tl ++ news) → OInt x r tl → Q r { s with heap := h', toks := tk' })
    {y : Int} (e : y = x) (F : Fr h₀ L h' m) (N : News h₀ L h' big) (sub : ∀ p ∈ news, p ∈ big) : Q (.int y t) { s with heap := h', toks := tk' } := by
  subst e
  exact hret _ [] _ _ F (fun p hp => N p (sub p hp)) ⟨rfl, t, rfl⟩
theorem ret_bool {x y : Bool} {h' : Heap} {tk' : Nat} {big : List (Addr × Obj)} (hret : ∀ r tl h' tk', Fr h₀ L h' m → News h₀ L h' (tl ++ news) → OBool x r tl → Q r { s with heap := h', toks := tk' })
    (e : y = x) (F : Fr h₀ L h' m) (N : News h₀ L h' big) (sub : ∀ p ∈ news, p ∈ big) : Q (.bool y) { s with heap := h', toks := tk' } := by
  subst e
  exact hret _ [] _ _ F (fun p hp => N p (sub p hp)) ⟨rfl, rfl⟩
theorem ret_pair {x y x' y' : Int} {t u : Tok} {h' : Heap} {tk' : Nat} {b : Addr} {big : List (Addr × Obj)} (hret : ∀ r tl h' tk', Fr h₀ L h' m → News h₀ L h' (tl ++ news) → OPair x y r tl → Q r { s with heap := h', toks := tk' })
    (hm : (b, pairObj (.int x' t) (.int y' u)) ∈ big) (ex : x' = x) (ey : y' = y) (F : Fr h₀ L h' m) (N : News h₀ L h' big) (sub : ∀ p ∈ news, p ∈ big) : Q (.ref b) { s with heap := h', toks := tk' } := by
  subst ex; subst ey
  refine hret _ [(b, pairObj (.int x' t) (.int y' u))] _ _ F (fun p hp => ?_) ⟨b, t, u, rfl, rfl⟩
  rcases List.mem_cons.mp hp with rfl | hp
  · exact N _ hm
  · exact N p (sub p hp)
theorem ret_turn {c0 c1 s0 s1 c0' c1' s0' s1' : Int} {t u v z : Tok} {h' : Heap} {tk' : Nat} {b c d : Addr} {big : List (Addr × Obj)} (hret : ∀ r tl h' tk', Fr h₀ L h' m → News h₀ L h' (tl ++ news) → OTurn c0 c1 s0 s1 r tl → Q r { s with heap := h', toks := tk' })
    (hb : (b, pairObj (.ref c) (.ref d)) ∈ big) (hc : (c, pairObj (.int c0' t) (.int c1' u)) ∈ big) (hd : (d, pairObj (.int s0' v) (.int s1' z)) ∈ big)
    (e0 : c0' = c0) (e1 : c1' = c1) (e2 : s0' = s0) (e3 : s1' = s1) (F : Fr h₀ L h' m) (N : News h₀ L h' big) (sub : ∀ p ∈ news, p ∈ big) : Q (.ref b) { s with heap := h', toks := tk' } := by
  subst e0; subst e1; subst e2; subst e3
  refine hret _ [(b, pairObj (.ref c) (.ref d)), (c, pairObj (.int c0' t) (.int c1' u)), (d, pairObj (.int s0' v) (.int s1' z))] _ _ F (fun p hp => ?_) ⟨b, c, d, t, u, v, z, rfl, rfl⟩
  rcases List.mem_cons.mp hp with rfl | hp
  · exact N _ hb
  rcases List.mem_cons.mp hp with rfl | hp
  · exact N _ hc
  rcases List.mem_cons.mp hp with rfl | hp
  · exact N _ hd
  · exact N p (sub p hp)
end

section
variable {P Q : Prop} {x y : Int} {c : Prop} [Decidable c]
theorem ine_t (h : x ≠ y) (p : P) : if (x != y) = true then P else Q := by rw [if_pos (by simp [h])]; exact p
theorem ine_f (h : x = y) (q : Q) : if (x != y) = true then P else Q := by rw [if_neg (by simp [h])]; exact q
theorem ieq_t (h : x = y) (p : P) : if (x == y) = true then P else Q := by rw [if_pos (by simp [h])]; exact p
theorem ieq_f (h : x ≠ y) (q : Q) : if (x == y) = true then P else Q := by rw [if_neg (by simp [h])]; exact q
theorem dec_t (h : c) (p : P) : if decide c = true then P else Q := by rw [if_pos (by simp [h])]; exact p
theorem dec_f (h : ¬ c) (q : Q) : if decide c = true then P else Q := by rw [if_neg (by simp [h])]; exact q
end
def WO (I : Addr) (it : Obj) (all out : List (Addr × Obj)) : Prop := (∀ p ∈ (I, it) :: out, p ∈ all) ∧ ∀ p ∈ out, p.1 ≠ I ∨ p.2.cls ≠ it.cls
def OffA (I : Addr) (it : Obj) (l : List (Addr × Obj)) : Prop := ∀ p ∈ l, p.1 ≠ I ∨ p.2.cls ≠ it.cls
theorem OffA.lt {I : Addr} {it : Obj} {l : List (Addr × Obj)} (h : AllLt I l) : OffA I it l := fun p hp => .inl (Nat.ne_of_lt (ktn_ltOf h p hp))
theorem OffA.cons {I : Addr} {it : Obj} {l : List (Addr × Obj)} {q : Addr × Obj} (hq : q.1 ≠ I ∨ q.2.cls ≠ it.cls) (h : OffA I it l) : OffA I it (q :: l) := fun p hp => by
  rcases List.mem_cons.mp hp with rfl | hp
  · exact hq
  · exact h p hp
theorem WO.here {I : Addr} {it : Obj} {l : List (Addr × Obj)} (h : OffA I it l) : WO I it ((I, it) :: l) l := ⟨fun _ h => h, h⟩
theorem WO.cons {I : Addr} {it : Obj} {l out : List (Addr × Obj)} {q : Addr × Obj} (hq : q.1 ≠ I ∨ q.2.cls ≠ it.cls) (h : WO I it l out) : WO I it (q :: l) (q :: out) := by
  refine ⟨fun p hp => ?_, fun p hp => ?_⟩
  · rcases List.mem_cons.mp hp with rfl | hp
    · exact List.mem_cons_of_mem _ (h.1 _ List.mem_cons_self)
    · rcases List.mem_cons.mp hp with rfl | hp
      · exact List.mem_cons_self
      · exact List.mem_cons_of_mem _ (h.1 _ (List.mem_cons_of_mem _ hp))
  · rcases List.mem_cons.mp hp with rfl | hp
    · exact hq
    · exact h.2 p hp
theorem unr_end {h₀ : Heap} {L I : Addr} {it : Obj} {rest : (PySem.Str → Option Value) → List (Addr × Obj) → Prop} {s₁ : Shared} {h' : Heap} {tk : Nat} {m' : PySem.Str → Option Value} {all out : List (Addr × Obj)} (F : Fr h₀ L h' m') (N : News h₀ L h' all)
    (W : WO I it all out) (r : rest m' out) : UnrEnd h₀ L s₁ I it rest { s₁ with heap := h', toks := tk } :=
  UnrEnd.intro F N out W.1 (fun p hp e => by
    rcases W.2 p hp with h | h
    · exact h e
    · have h1 := (N _ (W.1 p (List.mem_cons_of_mem _ hp))).1
      have h2 := (N _ (W.1 _ List.mem_cons_self)).1
      rw [e] at h1
      exact h (congrArg Obj.cls (Option.some.inj (h1.symm.trans h2)))) r
-- the plain functions
def signV (x : Int) : Int := if x > 0 then 1 else if x < 0 then -1 else 0
def fracT (a b : Int) : Int := if b < 0 then (-a).fdiv (Int.gcd a b) else a.fdiv (Int.gcd a b)
def fracB (a b : Int) : Int := if b < 0 then (-b).fdiv (Int.gcd a b) else b.fdiv (Int.gcd a b)

theorem gcd_turn {x y : Int} (hx : 0 ≤ x) (hy : 0 < y) : Int.gcd y (x.fmod y) = Int.gcd x y := by
  rw [Int.fmod_eq_emod_of_nonneg _ (Int.le_of_lt hy)]
  obtain ⟨a, rfl⟩ := Int.eq_ofNat_of_zero_le hx
  obtain ⟨b, rfl⟩ := Int.eq_ofNat_of_zero_le (Int.le_of_lt hy)
  rw [← Int.natCast_emod]
  simp only [Int.gcd, Int.natAbs_natCast]
  rw [Nat.gcd_comm b, ← Nat.gcd_rec, Nat.gcd_comm]
theorem gcd_abs (a b : Int) : Int.gcd ((a.natAbs : Nat) : Int) b = Int.gcd a b := by simp only [Int.gcd, Int.natAbs_natCast]
theorem gcd_end {x y : Int} {g : Nat} (e : Int.gcd x y = g) (hx : 0 ≤ x) (hy : 0 ≤ y) (h : ¬ 0 < y) : x = (g : Int) := by
  obtain rfl : y = 0 := by omega
  subst e
  simp only [Int.gcd_zero_right]; omega
abbrev Bt (n : Nat) (x : Int) : Prop := PySem.Builtin.Int.intBits x ≤ n
theorem log_of_bits {x : Int} {m : Nat} (h : PySem.Builtin.Int.intBits x ≤ m) (hm : m < 9000) : x.natAbs.log2 < 9000 := by
  have := intBits_le_iff.mp h
  by_cases h0 : x.natAbs = 0
  · rw [h0]; decide
  · have := (Nat.log2_lt h0).mpr this
    omega
theorem bits_gcd {a b : Int} {m : Nat} (hb : b ≠ 0) (h : PySem.Builtin.Int.intBits b ≤ m) : PySem.Builtin.Int.intBits ((Int.gcd a b : Nat) : Int) ≤ m := by
  refine intBits_le_of_natAbs ?_ h
  have : Int.gcd a b ≤ b.natAbs := Nat.le_of_dvd (by omega) (Nat.gcd_dvd_right _ _)
  simpa using this
theorem gcd_ne {a b : Int} (hb : b ≠ 0) : ((Int.gcd a b : Nat) : Int) ≠ 0 := by
  have : Int.gcd a b ≠ 0 := by
    intro h
    rw [Int.gcd_eq_zero_iff] at h
    exact hb h.2
  omega
theorem fracT_pos {a b : Int} (h : ¬ b < 0) : a.fdiv (Int.gcd a b) = fracT a b := by unfold fracT; rw [if_neg h]
theorem fracB_pos {a b : Int} (h : ¬ b < 0) : b.fdiv (Int.gcd a b) = fracB a b := by unfold fracB; rw [if_neg h]
theorem fracT_neg {a b : Int} (h : b < 0) : (-a).fdiv (Int.gcd (-a) (-b)) = fracT a b := by unfold fracT; rw [if_pos h]; simp only [Int.gcd, Int.natAbs_neg]
theorem fracB_neg {a b : Int} (h : b < 0) : (-b).fdiv (Int.gcd (-a) (-b)) = fracB a b := by unfold fracB; rw [if_pos h]; simp only [Int.gcd, Int.natAbs_neg]
theorem bits_lit200 {x : Int} (h : x.natAbs < 2 ^ 200) : PySem.Builtin.Int.intBits x ≤ 200 := intBits_le_iff.mpr h
theorem bits_fracT {a b : Int} {m : Nat} (h : PySem.Builtin.Int.intBits a ≤ m) : PySem.Builtin.Int.intBits (fracT a b) ≤ m := by
  unfold fracT
  split
  · exact intBits_fdiv_le (intBits_neg_le h)
  · exact intBits_fdiv_le h
theorem bits_fracB {a b : Int} {m : Nat} (h : PySem.Builtin.Int.intBits b ≤ m) : PySem.Builtin.Int.intBits (fracB a b) ≤ m := by
  unfold fracB
  split
  · exact intBits_fdiv_le (intBits_neg_le h)
  · exact intBits_fdiv_le h
theorem fdiv_dvd_pos {b : Int} {g : Nat} (hb : 0 < b) (h : (g : Int) ∣ b) : 0 < b.fdiv g := by
  obtain ⟨c, rfl⟩ := h
  have hg : (g : Int) ≠ 0 := by intro e; rw [e] at hb; omega
  rw [Int.mul_comm, Int.mul_fdiv_cancel _ hg]
  rw [Int.mul_comm] at hb
  exact Int.pos_of_mul_pos_left hb (by omega)
theorem fracB_gt {a b : Int} (hb : b ≠ 0) : 0 < fracB a b := by
  unfold fracB
  split
  · exact fdiv_dvd_pos (by omega) (Int.dvd_neg.mpr (Int.gcd_dvd_right _ _))
  · exact fdiv_dvd_pos (by omega) (Int.gcd_dvd_right _ _)
theorem fracB_ne {a b : Int} (hb : b ≠ 0) : fracB a b ≠ 0 := by have := fracB_gt (a := a) hb; omega
theorem mod_int_v {prog : Program} {w : World} {A : Around} {E : Value → Shared → Prop} {s : Shared} {a b v : Int} {t u : Tok} {Q : Value → Shared → Prop} (hb : b ≠ 0) (e : a.fmod b = v) (h : Q (.int v s.toks) { s with toks := s.toks + 1 }) :
    wpAny (model prog w) A (binaryOp .Mod (.int a t) (.int b u)) Q E s := mod_int' hb (by rw [e]; exact h)
theorem pow2_int {prog : Program} {w : World} {A : Around} {E : Value → Shared → Prop} {s : Shared} {a : Int} {t u : Tok} {Q : Value → Shared → Prop} (ha : a.natAbs < 2 ^ 60) (h : Q (.int (a * a) s.toks) { s with toks := s.toks + 1 }) :
    wpAny (model prog w) A (binaryOp .Pow (.int a t) (.int 2 u)) Q E s := pow_int_small (by decide) (by decide) (by omega) (by
      have e : a ^ (2 : Int).toNat = a * a := by show a ^ 2 = a * a; rw [Int.pow_succ, Int.pow_succ, Int.pow_zero, Int.one_mul]
      rw [e]; exact h)
theorem gen_toks3 {α : Type} {M : Model} {A : Around} {t : Sem α} {Q : α → Shared → Prop} {E : Value → Shared → Prop} {h : Heap} {g : Array GenState} {d : Drawn} {n : Nat} {os : OsState}
    (H : ∀ tk, wpAny M A t Q E ⟨h, g, d, tk, os⟩) : wpAny M A t Q E ⟨h, g, d, n + 1 + 1 + 1, os⟩ := H _
def rdV (num sc bt : Int) : Int := (2 * fracT (num * bt) sc + fracB (num * bt) sc).fdiv (2 * fracB (num * bt) sc)
end Mine
end
section
open PySem PySem.W PyProof.Rows
namespace Mine
abbrev MD (w : World) : Model := model PySem.Challenge.rw_nu0010_01.row.prog w
/-- the expression e tells the value v and changes nothing but the tokens -/
structure VN (w : World) (A : Around) (env : Env) (h : Heap) (e : PySem.Expr) (v : Value) : Prop where mk' ::
  run : ∀ (g : Array GenState) (d : Drawn) (tk : Nat) (os : OsState) (Q E : Value → Shared → Prop), Q v ⟨h, g, d, tk, os⟩ → wpAny (MD w) A (eval e env) Q E ⟨h, g, d, tk, os⟩
/-- the expression e tells the int v -/
structure IV (w : World) (A : Around) (env : Env) (h : Heap) (e : PySem.Expr) (v : Int) : Prop where mk' ::
  run : ∀ (g : Array GenState) (d : Drawn) (tk : Nat) (os : OsState) (Q E : Value → Shared → Prop), (∀ t tk', Q (.int v t) ⟨h, g, d, tk', os⟩) → wpAny (MD w) A (eval e env) Q E ⟨h, g, d, tk, os⟩
theorem bm {op : CmpOp} {e : PySem.Expr} (h : (op == .In || op == .NotIn) = false) : behindInMarks op e = false := by cases e <;> simp [behindInMarks, h]
section
variable {w : World} {A : Around} {env : Env} {h h₀ : Heap} {L : Addr} {m : PySem.Str → Option Value} {news : List (Addr × Obj)} {e e1 e2 : PySem.Expr} {pos : Pos} {v a b : Int} {x : PySem.Str}
theorem IV.use {s : Shared} {Q E : Value → Shared → Prop} (I : IV w A env s.heap e v) (k : ∀ t tk, Q (.int v t) { s with toks := tk }) : wpAny (MD w) A (eval e env) Q E s := I.run _ _ _ _ Q E k
theorem VN.ld {v : Value} (F : Fr h₀ L h m) (hv : m x = some v) (hL : env.locals = L := by rfl) (hk : env.scope.kind = .function := by rfl) (hl : env.kindOf x = some .local := by rfl)
    (hd : (x == ("__debug__" : PySem.Str)) = false := by decide) : VN w A env h (.Name x pos) v := ⟨fun g d tk os Q E k => wpAny_Name (wpAny_loadName_local (s := ⟨h, g, d, tk, os⟩) hk hl (hL ▸ F.ns) hv k) hd⟩
theorem IV.name {t : Tok} (V : VN w A env h e (.int v t)) : IV w A env h e v := ⟨fun g d tk os Q E k => V.run g d tk os Q E (k t tk)⟩
theorem IV.const {n : Nat} : IV w A env h (.Constant (.int v) n pos) v := ⟨fun g d tk os Q E k => wpAny_Constant_int (k _ _)⟩
theorem IV.bin {op : Operator} (I1 : IV w A env h e1 a) (I2 : IV w A env h e2 b) (r : ∀ (t u : Tok) (s : Shared) (Q E : Value → Shared → Prop), s.heap = h → Q (.int v s.toks) { s with toks := s.toks + 1 } → wpAny (MD w) A (binaryOp op (.int a t) (.int b u)) Q E s) :
    IV w A env h (.BinOp e1 op e2 pos) v := ⟨fun g d tk os Q E k => wpAny_BinOp (I1.run g d tk os _ E fun t1 tk1 => I2.run g d tk1 os _ E fun t2 tk2 => r t1 t2 ⟨h, g, d, tk2, os⟩ Q E rfl (k _ _))⟩
theorem IV.add (I1 : IV w A env h e1 a) (I2 : IV w A env h e2 b) : IV w A env h (.BinOp e1 .Add e2 pos) (a + b) := IV.bin I1 I2 fun t u s Q E _ k => PyProof.Rows.add_int k
theorem IV.sub (I1 : IV w A env h e1 a) (I2 : IV w A env h e2 b) : IV w A env h (.BinOp e1 .Sub e2 pos) (a - b) := IV.bin I1 I2 fun t u s Q E _ k => PyProof.Rows.sub_int k
theorem IV.mul (I1 : IV w A env h e1 a) (I2 : IV w A env h e2 b) {n k : Nat} (ba : PySem.Builtin.Int.intBits a ≤ n) (bb : PySem.Builtin.Int.intBits b ≤ k) (hn : n + k ≤ 134217728) : IV w A env h (.BinOp e1 .Mult e2 pos) (a * b) := IV.bin I1 I2 fun t u s Q E _ k => PyProof.Rows.mul_int k (PyProof.Rows.mulOk_of_bits ba bb hn)
theorem IV.fdiv (I1 : IV w A env h e1 a) (I2 : IV w A env h e2 b) (hb : b ≠ 0) {n : Nat} (bb : PySem.Builtin.Int.intBits b ≤ n) (hn : n < 9000) : IV w A env h (.BinOp e1 .FloorDiv e2 pos) (a.fdiv b) := IV.bin I1 I2 fun t u s Q E _ k => floordiv_int hb k (Or.inl (PyProof.noPylong_of_log2 (log_of_bits bb hn)))
theorem IV.fmod (I1 : IV w A env h e1 a) (I2 : IV w A env h e2 b) (hb : b ≠ 0) : IV w A env h (.BinOp e1 .Mod e2 pos) (a.fmod b) := IV.bin I1 I2 fun t u s Q E _ k => mod_int' hb k
theorem IV.fmodv (I1 : IV w A env h e1 a) (I2 : IV w A env h e2 b) (hb : b ≠ 0) (e : a.fmod b = v) : IV w A env h (.BinOp e1 .Mod e2 pos) v := e ▸ IV.fmod I1 I2 hb
theorem IV.pow2 {n : Nat} {pos' : Pos} (I1 : IV w A env h e1 a) (ha : a.natAbs < 2 ^ 60) : IV w A env h (.BinOp e1 .Pow (.Constant (.int 2) n pos') pos) (a * a) := IV.bin I1 IV.const fun t u s Q E _ k => pow2_int ha k
theorem IV.neg (I1 : IV w A env h e1 a) : IV w A env h (.UnaryOp .USub e1 pos) (-a) := ⟨fun g d tk os Q E k => UnaryOp_ (I1.run g d tk os _ E fun t1 tk1 => neg_int (k _ _))⟩
theorem IV.item {ix : Addr} {i : Int} {n j : Nat} {p1 p2 : Pos} {l : List Value} {t : Tok} (V : VN w A env h (.Name x p1) (.ref ix)) (T : IsTup h ix l.toArray) (h1 : -(2 ^ 63) ≤ i) (h2 : i < 2 ^ 63) (hj : seqIndex? i l.length = some j) (hx : l[j]? = some (.int v t)) : IV w A env h (.Subscript (.Name x p1) (.Constant (.int i) n p2) pos) v := ⟨fun g d tk os Q E k => Subscript_ (V.run g d tk os _ E (wpAny_Constant_int (item_tupleT (s := ⟨h, g, d, _, os⟩) T h1 h2 hj hx (k _ _))))⟩
theorem IV.fst {ix : Addr} {n : Nat} {p1 p2 : Pos} {t u : Tok} (V : VN w A env h (.Name x p1) (.ref ix)) (N : News h₀ L h news) (hm : (ix, pairObj (.int a t) (.int b u)) ∈ news) : IV w A env h (.Subscript (.Name x p1) (.Constant (.int 0) n p2) pos) a := IV.item V (News.isTup N hm) (by decide) (by decide) rfl rfl
theorem IV.snd {ix : Addr} {n : Nat} {p1 p2 : Pos} {t u : Tok} (V : VN w A env h (.Name x p1) (.ref ix)) (N : News h₀ L h news) (hm : (ix, pairObj (.int a t) (.int b u)) ∈ news) : IV w A env h (.Subscript (.Name x p1) (.Constant (.int 1) n p2) pos) b := IV.item V (News.isTup N hm) (by decide) (by decide) rfl rfl
/-- the test e comes out as c and changes nothing but the tokens -/
structure BV (w : World) (A : Around) (env : Env) (h : Heap) (e : PySem.Expr) (c : Bool) : Prop where mk' ::
  run : ∀ (g : Array GenState) (d : Drawn) (tk : Nat) (os : OsState) (Q : Bool → Shared → Prop) (E : Value → Shared → Prop), (∀ tk', Q c ⟨h, g, d, tk', os⟩) → wpAny (MD w) A (isTrue e env (eval e env)) Q E ⟨h, g, d, tk, os⟩
theorem BV.cmp {op : CmpOp} {c : Bool} (I1 : IV w A env h e1 a) (I2 : IV w A env h e2 b) (r : ∀ (t u : Tok) (s : Shared) (Q E : Value → Shared → Prop), Q (.bool c) s → wpAny (MD w) A (compareOp op (.int a t) (.int b u)) Q E s)
    (hm : behindInMarks op e2 = false := by with_unfolding_all rfl) : BV w A env h (.Compare e1 [op] [e2] pos) c := ⟨fun g d tk os Q E k => wpAny_isTrue_Compare1 (I1.run g d tk os _ E fun t1 tk1 => I2.run g d tk1 os _ E fun t2 tk2 => r t1 t2 ⟨h, g, d, tk2, os⟩ _ E (wpAny_truthy_bool (k _))) hm⟩
theorem BV.lt_t (I1 : IV w A env h e1 a) (I2 : IV w A env h e2 b) (x : a < b) : BV w A env h (.Compare e1 [.Lt] [e2] pos) true := BV.cmp I1 I2 (fun t u s Q E k => PyProof.Rows.lt_int (by rw [decide_eq_true x]; exact k)) (bm rfl)
theorem BV.lt_f (I1 : IV w A env h e1 a) (I2 : IV w A env h e2 b) (x : ¬ a < b) : BV w A env h (.Compare e1 [.Lt] [e2] pos) false := BV.cmp I1 I2 (fun t u s Q E k => PyProof.Rows.lt_int (by rw [decide_eq_false x]; exact k)) (bm rfl)
theorem BV.gt_t (I1 : IV w A env h e1 a) (I2 : IV w A env h e2 b) (x : b < a) : BV w A env h (.Compare e1 [.Gt] [e2] pos) true := BV.cmp I1 I2 (fun t u s Q E k => PyProof.Rows.gt_int (by rw [decide_eq_true x]; exact k)) (bm rfl)
theorem BV.gt_f (I1 : IV w A env h e1 a) (I2 : IV w A env h e2 b) (x : ¬ b < a) : BV w A env h (.Compare e1 [.Gt] [e2] pos) false := BV.cmp I1 I2 (fun t u s Q E k => PyProof.Rows.gt_int (by rw [decide_eq_false x]; exact k)) (bm rfl)
theorem BV.le_t (I1 : IV w A env h e1 a) (I2 : IV w A env h e2 b) (x : a ≤ b) : BV w A env h (.Compare e1 [.LtE] [e2] pos) true := BV.cmp I1 I2 (fun t u s Q E k => PyProof.Rows.le_int (by rw [decide_eq_true x]; exact k)) (bm rfl)
theorem BV.le_f (I1 : IV w A env h e1 a) (I2 : IV w A env h e2 b) (x : ¬ a ≤ b) : BV w A env h (.Compare e1 [.LtE] [e2] pos) false := BV.cmp I1 I2 (fun t u s Q E k => PyProof.Rows.le_int (by rw [decide_eq_false x]; exact k)) (bm rfl)
theorem BV.eq_t (I1 : IV w A env h e1 a) (I2 : IV w A env h e2 b) (x : a = b) : BV w A env h (.Compare e1 [.Eq] [e2] pos) true := BV.cmp I1 I2 (fun t u s Q E k => PyProof.Rows.eq_int (by rw [beq_iff_eq.mpr x]; exact k)) (bm rfl)
theorem BV.eq_f (I1 : IV w A env h e1 a) (I2 : IV w A env h e2 b) (x : a ≠ b) : BV w A env h (.Compare e1 [.Eq] [e2] pos) false := BV.cmp I1 I2 (fun t u s Q E k => PyProof.Rows.eq_int (by rw [beq_eq_false_iff_ne.mpr x]; exact k)) (bm rfl)
theorem BV.ne_t (I1 : IV w A env h e1 a) (I2 : IV w A env h e2 b) (x : a ≠ b) : BV w A env h (.Compare e1 [.NotEq] [e2] pos) true := BV.cmp I1 I2 (fun t u s Q E k => PyProof.Rows.ne_int (by rw [show (a != b) = true from bne_iff_ne.mpr x]; exact k)) (bm rfl)
theorem BV.ne_f (I1 : IV w A env h e1 a) (I2 : IV w A env h e2 b) (x : a = b) : BV w A env h (.Compare e1 [.NotEq] [e2] pos) false := BV.cmp I1 I2 (fun t u s Q E k => PyProof.Rows.ne_int (by rw [show (a != b) = false by simp [x]]; exact k)) (bm rfl)
theorem BV.or0 {pos : Pos} : BV w A env h (.BoolOp .Or [] pos) false := ⟨fun g d tk os Q E k => isTrue_or_nil (k _)⟩
theorem BV.and0 {pos : Pos} : BV w A env h (.BoolOp .And [] pos) true := ⟨fun g d tk os Q E k => isTrue_and_nil (k _)⟩
theorem BV.or_t {es : List PySem.Expr} (B : BV w A env h e true) : BV w A env h (.BoolOp .Or (e :: es) pos) true := ⟨fun g d tk os Q E k => isTrue_or (B.run g d tk os _ E fun tk' => by rw [if_pos rfl]; exact k _)⟩
theorem BV.or_f {es : List PySem.Expr} {c : Bool} (B : BV w A env h e false) (C : BV w A env h (.BoolOp .Or es pos) c) : BV w A env h (.BoolOp .Or (e :: es) pos) c := ⟨fun g d tk os Q E k => isTrue_or (B.run g d tk os _ E fun tk' => by rw [if_neg (by decide)]; exact C.run g d tk' os Q E k)⟩
theorem BV.and_f {es : List PySem.Expr} (B : BV w A env h e false) : BV w A env h (.BoolOp .And (e :: es) pos) false := ⟨fun g d tk os Q E k => isTrue_and (B.run g d tk os _ E fun tk' => by rw [if_neg (by decide)]; exact k _)⟩
theorem BV.and_t {es : List PySem.Expr} {c : Bool} (B : BV w A env h e true) (C : BV w A env h (.BoolOp .And es pos) c) : BV w A env h (.BoolOp .And (e :: es) pos) c := ⟨fun g d tk os Q E k => isTrue_and (B.run g d tk os _ E fun tk' => by rw [if_pos rfl]; exact C.run g d tk' os Q E k)⟩
theorem BV.not {c : Bool} (B : BV w A env h e c) : BV w A env h (.UnaryOp .Not e pos) (!c) := ⟨fun g d tk os Q E k => isTrue_not (B.run g d tk os _ E fun tk' => k _)⟩
theorem BV.use {s : Shared} {c : Bool} {Q : Bool → Shared → Prop} {E : Value → Shared → Prop} (B : BV w A env s.heap e c) (k : ∀ tk, Q c { s with toks := tk }) : wpAny (MD w) A (isTrue e env (eval e env)) Q E s := B.run _ _ _ _ Q E k
theorem if_t {s : Shared} {body orelse : List Stmt} {Q : Flow → Shared → Prop} {E : Value → Shared → Prop} (B : BV w A env s.heap e true) (k : ∀ tk, wpAny (MD w) A (execs body env) Q E { s with toks := tk }) : wpAny (MD w) A (exec (.If e body orelse pos) env) Q E s :=
  wpAny_If (B.run _ _ _ _ _ E fun tk => by rw [if_pos rfl]; exact k tk)
theorem if_f {s : Shared} {body orelse : List Stmt} {Q : Flow → Shared → Prop} {E : Value → Shared → Prop} (B : BV w A env s.heap e false) (k : ∀ tk, wpAny (MD w) A (execs orelse env) Q E { s with toks := tk }) : wpAny (MD w) A (exec (.If e body orelse pos) env) Q E s :=
  wpAny_If (B.run _ _ _ _ _ E fun tk => by rw [if_neg (by decide)]; exact k tk)
end
/-- where two ways of a statement meet: the flow goes on, with a frame and a ledger that a value of type α tells -/
def JP {α : Type} (h₀ : Heap) (L : Addr) (m' : α → PySem.Str → Option Value) (news' : α → List (Addr × Obj)) (s : Shared) (f : Flow) (s' : Shared) : Prop :=
  f = .next ∧ ∃ a h' tk', s' = { s with heap := h', toks := tk' } ∧ Fr h₀ L h' (m' a) ∧ News h₀ L h' (news' a)
section
variable {α : Type} {M : Model} {A : Around} {E : Value → Shared → Prop} {h₀ : Heap} {L : Addr} {m' : α → PySem.Str → Option Value} {news' : α → List (Addr × Obj)} {s : Shared}
theorem jp_mk {m₁ : PySem.Str → Option Value} {big : List (Addr × Obj)} {h' : Heap} {tk' : Nat} (a : α) (F : Fr h₀ L h' m₁) (N : News h₀ L h' big) (hm : m₁ = m' a) (sub : ∀ p ∈ news' a, p ∈ big) : JP h₀ L m' news' s .next { s with heap := h', toks := tk' } :=
  ⟨rfl, a, h', tk', rfl, hm ▸ F, fun p hp => N p (sub p hp)⟩
theorem jp_use {t : Sem Flow} {Q : Flow → Shared → Prop} (h1 : wpAny M A t (JP h₀ L m' news' s) E s) (h2 : ∀ a h' tk', Fr h₀ L h' (m' a) → News h₀ L h' (news' a) → Q .next { s with heap := h', toks := tk' }) : wpAny M A t Q E s :=
  wpAny_mono h1 (fun f s₂ p => by obtain ⟨rfl, a, h', tk', rfl, F, N⟩ := p; exact h2 a h' tk' F N) fun _ _ x => x
end
theorem upd_same {m : PySem.Str → Option Value} {k : PySem.Str} {v : Option Value} (h : m k = v) : m = fun y => if y = k then v else m y := by
  funext y
  by_cases e : y = k
  · rw [if_pos e, e]; exact h
  · rw [if_neg e]
section
variable {M : Model} {A : Around} {E : Value → Shared → Prop} {s : Shared} {h₀ : Heap} {L : Addr} {m : PySem.Str → Option Value} {k : PySem.Str}
theorem if_int {T : Int} {t : Sem Flow} {Q : Flow → Shared → Prop} (news : List (Addr × Obj)) (F : Fr h₀ L s.heap m)
    (h1 : wpAny M A t (JP h₀ L (fun (t : Tok) y => if y = k then some (.int T t) else m y) (fun _ => news) s) E s)
    (h2 : ∀ t h' tk', Fr h₀ L h' (fun y => if y = k then some (.int T t) else m y) → News h₀ L h' news → Q .next { s with heap := h', toks := tk' }) : wpAny M A t Q E s :=
  jp_use h1 fun a h' tk' F' N' => h2 _ h' tk' F' N'
theorem jp_int {T v : Int} {news big : List (Addr × Obj)} {m₁ : PySem.Str → Option Value} {h' : Heap} {tk' : Nat} {t : Tok} (F : Fr h₀ L h' m₁) (N : News h₀ L h' big) (hm : m₁ = fun y => if y = k then some (.int v t) else m y) (e : v = T) (sub : ∀ p ∈ news, p ∈ big) :
    JP h₀ L (fun (t : Tok) y => if y = k then some (.int T t) else m y) (fun _ => news) s .next { s with heap := h', toks := tk' } :=
  jp_mk t F N (by subst e; exact hm) sub
end
theorem un_le {un a b c : Nat} (h : un + a < cLine) (e : b + c ≤ a) : un + b + c < cLine := by rw [Nat.add_assoc]; exact Nat.lt_of_le_of_lt (Nat.add_le_add_left e _) h
theorem un_le0 {un a b : Nat} (h : un + a < cLine) (e : b ≤ a) : un + b < cLine := Nat.lt_of_le_of_lt (Nat.add_le_add_left e _) h
theorem dp_le {un a b c : Nat} (h : un + a < recursionLimit) (e : b + c ≤ a) : un + b + c < recursionLimit := by rw [Nat.add_assoc]; exact Nat.lt_of_le_of_lt (Nat.add_le_add_left e _) h
theorem dp_le0 {un a b : Nat} (h : un + a < recursionLimit) (e : b ≤ a) : un + b < recursionLimit := Nat.lt_of_le_of_lt (Nat.add_le_add_left e _) h
def Hid (p : Prop) : Prop := p
theorem Hid.out {p : Prop} (h : Hid p) : p := h
section
variable {w : World} {A : Around} {env : Env} {h₀ : Heap} {L : Addr} {m : PySem.Str → Option Value} {news : List (Addr × Obj)} {e1 e2 : PySem.Expr} {pos : Pos} {a b : Int} {s : Shared} {Q E : Value → Shared → Prop}
/-- a pair of ints is made in one step -/
theorem tup2 {k : Nat} (I1 : IV w A env s.heap e1 a) (I2 : IV w A env s.heap e2 b) (F : Fr h₀ L s.heap m) (N : News h₀ L s.heap news)
    (h : ∀ D t u h' tk', Fr h₀ L h' m → News h₀ L h' ((D, pairObj (.int a t) (.int b u)) :: news) → (∀ p ∈ news, p.1 < D) → Q (.ref D) { s with heap := h', toks := tk' })
    (x1 : starEach [e1, e2] env = (false, eval e1 env) :: starEach [e2] env := by rfl) (x2 : starEach [e2] env = (false, eval e2 env) :: starEach [] env := by rfl) :
    wpAny (MD w) A (eval (.Tuple [e1, e2] k pos) env) Q E s :=
  Tuple_ (args_cons (I1.use fun t tk1 => args_cons (IV.use (s := { s with toks := tk1 }) I2 fun u tk2 => args_nil (kup_newTuple (s := { s with toks := tk2 }) F N (fun D h' F' N' l => h D t u h' tk2 F' N' l) (show 2 ≤ sizeLine by decide))) x2) x1)
end
end Mine
end
section
open PySem PySem.W PyProof.Rows
open Sem (wp)
open Builtin Builtin.ObjectAttr
namespace Mine
abbrev bmX (D : Addr) : List Value := [.ref D, .type "Exception", .type "BaseException", .type "object"]
abbrev faultCls (nm q : Str) (C N D : Addr) (bs : List Value) (sn : List Str) (sub : List Value) (ab : Bool) (col : Option Bool) (dd : Option Addr) (k0 k1 k2 k3 k5 : Option Value) : Obj :=
  excClassObj nm q C N bs (bmX D) true sn sub ab col dd k0 k1 k2 k3 k5 "Exception.__new__"
/-- a class of the program's own, child of a class of its own, grandchild of Exception -/
structure Fault (h : Heap) (C D I : Addr) (mN mD : Str → Option Value) : Prop where
  cls : ∃ nm q N bs sn sub ab col dd k0 k1 k2 k3 k5, h.get? C = some (faultCls nm q C N D bs sn sub ab col dd k0 k1 k2 k3 k5) ∧ h.Ns N mN
  base : ∃ c0 dd cd sl, h.get? D = some { cls := c0, dict := dd, data := .cls cd, slots := sl } ∧ h.Ns cd.ns mD
  fn : ∃ o, h.get? I = some o ∧ o.cls = .type "function"
theorem Fault.keeps {h h' : Heap} {C D I : Addr} {mN mD : Str → Option Value} (F : Fault h C D I mN mD) (hk : ∀ b o, h.get? b = some o → h'.get? b = some o) : Fault h' C D I mN mD := by
  obtain ⟨⟨nm, q, N, bs, sn, sub, ab, col, dd, k0, k1, k2, k3, k5, h1, h2⟩, ⟨c0, dd', cd, sl, h3, h4⟩, ⟨o, h5, h6⟩⟩ := F
  exact ⟨⟨nm, q, N, bs, sn, sub, ab, col, dd, k0, k1, k2, k3, k5, hk _ _ h1, h2.keeps hk⟩, ⟨c0, dd', cd, sl, hk _ _ h3, h4.keeps hk⟩, ⟨o, hk _ _ h5, h6⟩⟩
section
variable {M : Model} {A : Around} {E : Value → Shared → Prop} {h : Heap} {g : Array GenState} {d : Drawn} {t : Nat} {os : OsState} {C D I : Addr} {mN mD : Str → Option Value}
theorem look2 {n : Str} {y : Option Value} {Q : Option Value → Shared → Prop} (F : Fault h C D I mN mD) (hB : typeLookup (.type "Exception") n = pure y) (h0 : mN n = none)
    (hq : Q (match mD n with | some v => some v | none => y) ⟨h, g, d, t, os⟩) : wpAny M A (typeLookup (.ref C) n) Q E ⟨h, g, d, t, os⟩ := by
  obtain ⟨⟨nm, q, N, bs, sn, sub, ab, col, dd, k0, k1, k2, k3, k5, hC, hN⟩, ⟨c0, dd', cd, sl, hD, hM⟩, _⟩ := F
  have hrest : lookupAlong [.type "Exception", .type "BaseException", .type "object"] n = pure y := by rw [typeLookup_eq, PySem.F.excBase_Exception.mroIs] at hB; exact hB
  rw [typeLookup_eq]
  refine wpAny_bind (wpAny_mroOf_exc hC ?_)
  rw [lookupAlong_cons]
  refine wpAny_bind (wpAny_classOwn_exc hC hN ?_)
  rw [h0]
  show wpAny _ _ (lookupAlong (bmX D) n) _ _ _
  rw [lookupAlong_cons]
  refine wpAny_bind (wpAny_classOwn_cls hD hM ?_)
  cases hv : mD n with
  | some v => rw [hv] at hq; exact wpAny_pure hq
  | none => rw [hv] at hq; show wpAny _ _ (lookupAlong _ n) _ _ _; rw [hrest]; exact wpAny_pure hq
end
section
variable {prog : Program} {w : World} {A : Around} {R : Result → Shared → Prop} {h : Heap} {g : Array GenState} {d : Drawn} {t : Nat} {os : OsState}
variable {nm q : Str} {C N D I : Addr} {bs : List Value} {sn : List Str} {sub : List Value} {ab : Bool} {col : Option Bool} {dd : Option Addr} {k0 k1 k2 k3 k5 : Option Value}
theorem bmX_has (C D : Addr) (X : String) : (Value.ref C :: bmX D).contains (.type X) = ([.type "Exception", .type "BaseException", .type "object"] : List Value).contains (.type X) := by
  rw [List.contains_cons, List.contains_cons]; rfl
theorem fault_new {rest : List Value} (hC : h.get? C = some (faultCls nm q C N D bs sn sub ab col dd k0 k1 k2 k3 k5))
    (hq : R (.ok (.ret (.ref (h.objs.size + 1)))) ⟨(h.push { cls := .type "tuple", data := .seq rest.toArray }).push
      { cls := .ref C, data := .fields #[.ref h.objs.size, .none, .none, .none, .bool false, .none] }, g, d, t, os⟩) (hrest : rest.length ≤ sizeLine := by size_fits) :
    codeAny (model prog w) A (.builtin "Exception.__new__" ⟨.ref C :: rest, []⟩) R ⟨h, g, d, t, os⟩ := by
  have F := PySem.F.excBase_Exception
  have hends := F.ends
  have hcB : (Value.ref C :: bmX D).contains (.type "Exception") = true := by rw [bmX_has]; rfl
  have hcA : (Value.ref C :: bmX D).contains (.type "AttributeError") = false := by rw [bmX_has]; rfl
  have hcN : (Value.ref C :: bmX D).contains (.type "NameError") = false := by rw [bmX_has]; rfl
  refine codeAny_builtinAt F.entry ?_
  unfold Builtin.«BaseException.__new__»
  refine PySem.wpAt_bind ?_
  show PySem.wpAt _ _ _ (stack >>= _) _ _ _
  refine PySem.wpAt_bind (PySem.wpAt_stack fun p below => PySem.wpAt_of_wpAny ?_)
  wp_walk
  refine PySem.wpAt_of_wpAny ?_
  rw [F.owner]
  repeat (first | with_reducible refine wpAny_madeHere_exc F.canon hC ?_ | with_reducible refine wpAny_loadPart_at hC ?_ | (with_reducible refine wpAny_isSubtype_exc hC ?_; first | rw [hcB] | rw [hcA] | rw [hcN]) | wp_step)
  show R _ _
  rw [Heap.size_push]
  exact hq
theorem fault_check {M : Model} {E : Value → Shared → Prop} {rest : List Value} {Q : Unit → Shared → Prop} (hC : h.get? C = some (faultCls nm q C N D bs sn sub ab col dd k0 k1 k2 k3 k5))
    (hq : Q () ⟨h, g, d, t, os⟩) : wpAny M A (checkBuiltinCall "Exception.__new__" ⟨.ref C :: rest, []⟩) Q E ⟨h, g, d, t, os⟩ := by
  have F := PySem.F.excBase_Exception
  have hcont : (Value.ref C :: bmX D).contains (.type "Exception") = true := by rw [bmX_has]; rfl
  have hstar := F.noStar
  simp only [checkBuiltinCall, F.newKind, F.newSplit, F.newRow]
  repeat (first | refine wpAny_loadPart_at hC ?_ | (refine wpAny_isSubtype_exc hC ?_; rw [hcont]) | refine wpAny_staticBase_exc hC ?_ | refine wpAny_madeBy_exc hC ?_ | simp only [bne_self_eq_false, Bool.false_eq_true, if_false] | wp_step)
  exact hq
end
section
variable {prog : Program} {w : World} {A : Around} {E : Value → Shared → Prop} {h : Heap} {g : Array GenState} {d : Drawn} {t : Nat} {os : OsState}
variable {C D I : Addr} {mN mD : Str → Option Value}
theorem fault_type_call {rest : List Value} {Q : Fin → Shared → Prop} (F : Fault h C D I mN mD) (h0 : mN "__init__" = none) (hi : mD "__init__" = some (.ref I))
    (hq : ∀ h' e, Heap.MadeExcOf h h' e (.ref C) rest →
      wpAny (model prog w) A (call (.ref I) (.ref e :: rest)) (fun r s' => r = .none ∧ Q (.done (.ret (.ref e))) s') E ⟨h', g, d, t, os⟩) (hrest : rest.length ≤ sizeLine := by size_fits) :
    wpAny (model prog w) A (Builtin.«type.__call__» ⟨.ref C :: rest, []⟩) Q E ⟨h, g, d, t, os⟩ := by
  have B := PySem.F.excBase_Exception
  obtain ⟨⟨nm, q, N, bs, sn, sub, ab, col, dd, k0, k1, k2, k3, k5, hC, hN⟩, _, ⟨oI, hfI, hfc⟩⟩ := id F
  repeat (first | with_reducible refine wpAny_loadPart_at hC ?_ | with_reducible refine wpAny_madeBy_exc hC ?_ | wp_step)
  refine codeAny_call_builtin_code (Code.quiet_builtin _ B.quiet) (fault_check hC ?_)
  refine fault_new hC ?_ hrest
  show wpAny _ _ _ _ _ _
  have hk : ∀ b o, h.get? b = some o → ((h.push { cls := .type "tuple", data := .seq rest.toArray }).push { cls := .ref C, data := .fields #[.ref h.objs.size, .none, .none, .none, .bool false, .none] }).get? b = some o :=
    fun b o hb => Heap.get?_push_of_some _ (Heap.get?_push_of_some _ hb)
  have F₁ := F.keeps hk
  have hget : ((h.push { cls := .type "tuple", data := .seq rest.toArray }).push
      { cls := .ref C, data := .fields #[.ref h.objs.size, .none, .none, .none, .bool false, .none] }).get? (h.objs.size + 1) = some
      { cls := .ref C, data := .fields #[.ref h.objs.size, .none, .none, .none, .bool false, .none] } := by heap_get
  have hcC : (Value.ref C :: bmX D).contains (.ref C) = true := by simp
  unfold isInstance
  repeat (first | with_reducible refine wpAny_loadPart_at hget ?_ | (with_reducible refine wpAny_isSubtype_exc (hk _ _ hC) ?_; rw [hcC]) | wp_step)
  show wpAny _ _ (typeLookup (.ref C) _) _ _ _
  refine look2 F₁ B.init.lookup h0 ?_
  rw [hi]
  refine wpAny_holding (wpAny_bind ?_)
  unfold bindSpecial
  refine wpAny_bind (wpAny_typeOf (T := "function") ⟨_, hk _ _ hfI, hfc⟩ ?_)
  rw [if_pos (by decide)]
  refine wpAny_pure (wpAny_bind (wpAny_mono (hq _ (h.objs.size + 1) ⟨hk, Heap.get?_none_of_le (Nat.le_succ _), h.objs.size, hget, Heap.get?_none_of_le (Nat.le_refl _), ?_⟩) (fun r s' hr => ?_) fun _ _ x => x))
  · exact Heap.get?_push_of_some _ (Heap.get?_push_at rfl rfl)
  · obtain ⟨rfl, hQ⟩ := hr
    wp_walk
    exact hQ
theorem fault_call {rest : List Value} {Q : Value → Shared → Prop} (F : Fault h C D I mN mD) (h0 : mN "__init__" = none) (hi : mD "__init__" = some (.ref I))
    (hq : ∀ h' e, Heap.MadeExcOf h h' e (.ref C) rest →
      wpAny (model prog w) (A.under (.builtin "type.__call__" ⟨.ref C :: rest, []⟩)) (call (.ref I) (.ref e :: rest)) (fun r s' => r = .none ∧ Q (.ref e) s') E ⟨h', g, d, t, os⟩) (hrest : rest.length ≤ sizeLine := by size_fits) :
    wpAny (model prog w) A (call (.ref C) rest) Q E ⟨h, g, d, t, os⟩ := by
  obtain ⟨⟨nm, q, N, bs, sn, sub, ab, col, dd, k0, k1, k2, k3, k5, hC, hN⟩, _⟩ := id F
  have f1 := tc_lookup
  have f2 := tc_bind (.ref C)
  have hT : (⟨h, g, d, t, os⟩ : Shared).TypeIs (.ref C) "type" := ⟨_, hC, rfl⟩
  refine wpAny_call (codeAny_of_tree ?_)
  show wpAny _ _ (callAny (.ref C) _) _ _ _
  repeat (any_goals (first | assumption | with_reducible refine wpAny_loadPart_at hC ?_ | wp_step))
  refine ⟨rfl, ?_⟩
  refine codeAny_call_builtin_at (Code.quiet_builtin _ (by decide +kernel)) entry_typeCall (wpAny_check_type_call_sub hC (fault_type_call (hrest := hrest) F h0 hi fun h' e hm => ?_))
  exact hq h' e hm
end
end Mine
end
section
open PySem PySem.W PyProof.Rows
open Builtin Builtin.ObjectAttr
namespace Mine
section
variable {prog : Program} {w : World} {A : Around} {E : Value → Shared → Prop} {h : Heap} {g : Array GenState} {d : Drawn} {t : Nat} {os : OsState}
variable {C D I x : Addr} {mN mD : Str → Option Value} {name : Str} {v : Value}
theorem fault_check_sa {sa owner : String} (SF : StoreFacts "Exception" [.type "Exception", .type "BaseException", .type "object"] sa owner) {M : Model} {o : Obj} {nameV : Value} {Q : Unit → Shared → Prop} (F : Fault h C D I mN mD) (hx : h.get? x = some o) (hc : o.cls = .ref C) (hq : Q () ⟨h, g, d, t, os⟩) :
    wpAny M A (checkBuiltinCall sa ⟨[.ref x, nameV, v], []⟩) Q E ⟨h, g, d, t, os⟩ := by
  obtain ⟨⟨nm, q, N, bs, sn, sub, ab, col, dd, k0, k1, k2, k3, k5, hC, hN⟩, _⟩ := id F
  have hcB : (Value.ref C :: bmX D).contains (.type owner) = true := by rw [bmX_has]; exact SF.hasOwner
  have ha := SF.args (.ref x) nameV v
  simp only [checkBuiltinCall, SF.kind, SF.split]
  refine wpAny_bind ?_
  · unfold isInstance
    repeat (first | (with_reducible refine wpAny_loadPart_at hx ?_; rw [hc]) | (with_reducible refine wpAny_isSubtype_exc hC ?_; rw [hcB]) | wp_step)
    cases hsig : Manifest.signature? sa with
    | none => exact wpAny_pure hq
    | some sig =>
      simp only [argsOk, hsig] at ha
      have h2 : Bind.checkArgs sa sig ⟨[.ref x, nameV, v], []⟩ = pure () := ha
      show wpAny M A (Bind.checkArgs sa sig ⟨[.ref x, nameV, v], []⟩) Q E _
      rw [h2]; exact wpAny_pure hq
set_option maxHeartbeats 1000000 in
theorem fault_entry {sa owner : String} (SF : StoreFacts "Exception" [.type "Exception", .type "BaseException", .type "object"] sa owner) {tk : Tok} {o : Obj} {Q : Fin → Shared → Prop} (F : Fault h C D I mN mD) (hna : mN name = none) (hnd : mD name = none)
    (hB : typeLookup (.type "Exception") name = pure none) (hx : h.get? x = some o) (hc : o.cls = .ref C) (hnc : ∀ c, o.data ≠ .cls c) (hdn : o.dict = none)
    (hq : ∀ h' tk', (∀ b o, b ≠ x → h.get? b = some o → h'.get? b = some o) → (∃ o₁, h'.get? x = some o₁ ∧ o₁.cls = o.cls ∧ o₁.data = o.data) → Q (.done (.ret .none)) ⟨h', g, d, tk', os⟩) :
    wpAny (model prog w) A (Builtin.«object.__setattr__» ⟨[.ref x, .str name tk, v], []⟩) Q E ⟨h, g, d, t, os⟩ := by
  obtain ⟨⟨nm, q, N, bs, sn, sub, ab, col, dd, k0, k1, k2, k3, k5, hC, hN⟩, _⟩ := id F
  have hpass := SF.passes (.ref x)
  unfold Builtin.«object.__setattr__»
  repeat (first | rw [refuse_eq] | (rw [refuseLoop_ref, refuseLoop_ref, hpass]) | (with_reducible refine wpAny_loadPart_at hx ?_; rw [hc]) | with_reducible refine wpAny_mroOf_exc hC ?_ | (with_reducible refine look2 F hB hna ?_; rw [hnd]) | wp_step)
  rw [hdn, if_neg (by simp [typeHasDict])]
  split
  · rename_i hcd
    cases hcd
  split
  · rename_i c hcd
    exact absurd hcd (hnc c)
  · have hx₁ : (h.push { cls := .type "dict", data := .dict #[] }).get? x = some o := Heap.get?_push_of_some _ hx
    have hxs : x ≠ h.objs.size := Nat.ne_of_lt (Heap.lt_size hx)
    refine wpAny_bind (wpAny_alloc' ?_)
    refine wpAny_bind (wpAny_update' hx₁ ?_)
    refine wpAny_pure ?_
    have hgd : ((h.push { cls := .type "dict", data := .dict #[] }).update x fun o => { cls := o.cls, dict := some h.objs.size, data := o.data, slots := o.slots }).get? h.objs.size
        = some { cls := .type "dict", data := .dict #[] } :=
      (Heap.get?_update_ne _ _ _ _ hxs.symm).trans (Heap.get?_push_at rfl rfl)
    have hnd : ((h.push { cls := .type "dict", data := .dict #[] }).update x fun o => { cls := o.cls, dict := some h.objs.size, data := o.data, slots := o.slots }).Ns h.objs.size (fun _ => none) :=
      ⟨_, #[], _, hgd, rfl, fun e he => absurd he (by simp), fun _ => rfl⟩
    show wpAny _ _ (storeInDict h.objs.size (.str name tk) name v) _ _ _
    unfold storeInDict newKeyGuard
    refine wpAny_bind (wpAny_pure (wpAny_bind (wpAny_nsSet1 (Heap.Ns1.of_empty hnd) fun h' hn' hs => ?_)))
    obtain ⟨oD, esD, epD, hoD, hdD, hcD⟩ := hn'.count (Within.cons name v Within.nil)
    refine wpAny_bind (wpAny_lookBehind hoD (by rw [hdD]; exact pastItsLine_dict (Nat.le_trans hcD (by rw [List.length_cons, List.length_nil, sizeLine_eq]; omega))) ?_)
    wp_walk
    refine hq h' _ (fun b ob hbx hb => ?_) ⟨{ cls := o.cls, dict := some h.objs.size, data := o.data, slots := o.slots }, ?_, rfl, rfl⟩
    · exact (hs.2 b (Nat.ne_of_lt (Heap.lt_size hb))).trans ((Heap.get?_update_ne _ _ _ _ hbx).trans (Heap.get?_push_of_some _ hb))
    · refine (hs.2 x hxs).trans (Heap.get?_update_self _ hx₁ ?_)
      have hfr := (Heap.get?_some_iff.mp hx).2
      obtain ⟨oc, od, odt, osl⟩ := o
      cases odt <;> first | rfl | exact hfr
theorem fault_store {sa owner : String} (SF : StoreFacts "Exception" [.type "Exception", .type "BaseException", .type "object"] sa owner) {o : Obj} {Q : Unit → Shared → Prop} (F : Fault h C D I mN mD) (hsa : mN "__setattr__" = none) (hsd : mD "__setattr__" = none) (hna : mN name = none) (hnd : mD name = none)
    (hB : typeLookup (.type "Exception") name = pure none) (hx : h.get? x = some o) (hc : o.cls = .ref C) (hnc : ∀ c, o.data ≠ .cls c) (hdn : o.dict = none)
    (hq : ∀ h' tk', (∀ b o, b ≠ x → h.get? b = some o → h'.get? b = some o) → (∃ o₁, h'.get? x = some o₁ ∧ o₁.cls = o.cls ∧ o₁.data = o.data) → Q () ⟨h', g, d, tk', os⟩) :
    wpAny (model prog w) A (setAttr (.ref x) name v) Q E ⟨h, g, d, t, os⟩ := by
  have f3 := SF.slot.bind (.ref x)
  unfold setAttr callSpecial? specialOf
  repeat (any_goals (first | assumption | (with_reducible refine wpAny_loadPart_at hx ?_; rw [hc]) | (with_reducible refine look2 F SF.slot.lookup hsa ?_; rw [hsd]) | wp_step))
  refine codeAny_call_builtin SF.slot.plain SF.entry (fault_check_sa SF F hx hc (fault_entry SF F hna hnd hB hx hc hnc hdn fun h' tk' hk hs => ?_))
  repeat (any_goals (first | assumption | wp_step))
  exact hq h' tk' hk hs
end
end Mine
end
section
open PySem PySem.W PyProof.Rows
open Builtin Builtin.ObjectAttr
namespace Mine
theorem ns_some_of {K : Frag} {h : Heap} {N : Addr} {mg : PySem.Str → Option Value} {n : PySem.Str} {v : Value} (X : K.In h) (G : h.Ns N mg) (e : nsIn K N n = some (some v)) : mg n = some v := by
  obtain ⟨o, es, ep, ho, hd, _, hf⟩ := G
  unfold nsIn at e
  split at e
  · rename_i c d es' n' sl q
    have := X _ _ q
    rw [ho] at this
    cases this
    cases hd
    split at e
    · rename_i en he
      cases e
      rw [← hf]
      unfold nsFind findBy
      rw [← Array.find?_toList, he]
      rfl
    · split at e <;> cases e
  · cases e
theorem fault_of {w : World} {h : Heap} (X : (hd.heap_39 w.params).In h) : Fault h 44 31 28 (h.nsMap 43) (h.nsMap 30) :=
  ⟨⟨_, _, 43, _, _, _, _, _, _, _, _, _, _, _, X 44 _ rfl, .of_isNs (isNs_of_in X (by kernel_rfl))⟩, ⟨_, _, _, _, X 31 _ rfl, .of_isNs (isNs_of_in (N := 30) X (by kernel_rfl))⟩, ⟨_, X 28 _ rfl, rfl⟩⟩
theorem fault_none {w : World} {h : Heap} {x : PySem.Str} (X : (hd.heap_39 w.params).In h) (e : nsIn (hd.heap_39 w.params) 43 x = some none) : h.nsMap 43 x = none := nsMap_none_of_in X (by kernel_rfl) e
theorem fault_noneD {w : World} {h : Heap} {x : PySem.Str} (X : (hd.heap_39 w.params).In h) (e : nsIn (hd.heap_39 w.params) 30 x = some none) : h.nsMap 30 x = none := nsMap_none_of_in X (by kernel_rfl) e
theorem fault_initD {w : World} {h : Heap} (X : (hd.heap_39 w.params).In h) : h.nsMap 30 "__init__" = some (.ref 28) := ns_some_of (N := 30) X (.of_isNs (isNs_of_in X (by kernel_rfl))) (by kernel_rfl)
theorem fault_msg : typeLookup (.type "Exception") "message" = pure none := by rw [typeLookup_type, builtinLookup_eq_fast]; kernel_rfl
theorem fault_init {w : World} {A : Around} {E : Value → Shared → Prop} {s : Shared} {e : Addr} {msg : Value} {vs : Array Value} {Q : Value → Shared → Prop} (X : (hd.heap_39 w.params).In s.heap) (hlim : s.heap.NoLimit) (hroom : A.depth < recursionLimit)
    (he : s.heap.get? e = some { cls := .ref 44, data := .fields vs })
    (hq : ∀ h' tk', (∀ b o, b ≠ e → s.heap.get? b = some o → h'.get? b = some o) → (∃ o₁, h'.get? e = some o₁ ∧ o₁.cls = .ref 44 ∧ o₁.data = .fields vs) → Q .none { s with heap := h', toks := tk' }) :
    wpAny (model PySem.Challenge.rw_nu0010_01.row.prog w) A (call (.ref 28) [.ref e, msg]) Q E s := by
  refine wpAny_call ?_
  refine codeAny_call_def (a := 28) (binds := [(PySem.Str.ofString "self", .ref e), (PySem.Str.ofString "message", msg)]) hroom (X 28 _ rfl) rfl hlim (codeRec_of X (by kernel_rfl)) rfl (BindsTo.of_eq rfl) (by decide) (locs rfl) (fun h₁ hns hk₁ => ?_)
  have F : Fr s.heap s.heap.objs.size h₁ (fun x => [(PySem.Str.ofString "self", .ref e), (PySem.Str.ofString "message", msg)].reverse.lookup x) := ⟨hns, hk₁, Nat.le_refl _⟩
  have X₁ : (hd.heap_39 w.params).In h₁ := X.keeps hk₁
  show wpAny _ _ (execs _ (envOf (PySem.Str.ofString "MillError.__init__") { kind := ScopeKind.function, names := [(Str.ofString "self", NameKind.local), (Str.ofString "message", NameKind.local)], isGenerator := false, isCoroutine := false } s.heap.objs.size 28 (Value.ref 27))) _ _ _
  refine wpAny_execs_cons (plainObj_wpAny_Assign_Attribute ?_)
  refine ld F rfl ?_
  refine ld F rfl ?_
  refine fault_store PySem.F.store_Exception (fault_of X₁) (fault_none X₁ (by kernel_rfl)) (fault_noneD X₁ (by kernel_rfl)) (fault_none X₁ (by kernel_rfl)) (fault_noneD X₁ (by kernel_rfl)) fault_msg (hk₁ _ _ he) rfl (fun c q => by cases q) rfl fun h' tk' hk hs => ?_
  refine wpAny_execs_nil ?_
  exact hq h' _ (fun b o hb ho => hk b o hb (hk₁ b o ho)) hs
end Mine
end
section
open PySem PySem.W PyProof.Rows
open Builtin Builtin.ObjectAttr
namespace Mine
structure MadeX (h h' : Heap) (e : Addr) : Prop where
  keeps : ∀ b o, h.get? b = some o → h'.get? b = some o
  new : h.get? e = none
  there : ∃ o t, h'.get? e = some o ∧ o.cls = .ref 44 ∧ o.data = .fields #[t, .none, .none, .none, .bool false, .none]
section
variable {w : World} {A : Around} {E : Value → Shared → Prop} {s : Shared}
theorem fault_raiseStmt {M : Model} {env : Env} {C D I : Addr} {x : Sem Value} {Q : Flow → Shared → Prop} (hh : A.handled = none)
    (h : wpAny M A x (fun v s₁ => ∃ e o mN mD, v = .ref e ∧ Fault s₁.heap C D I mN mD ∧ s₁.heap.get? e = some o ∧ o.cls = .ref C ∧ (∃ t, o.data = .fields #[t, .none, .none, .none, .bool false, .none]) ∧ E (.ref e) s₁) E s) :
    wpAny M A (raiseStmt env (some x) none) Q E s := by
  have hcB : (Value.ref C :: bmX D).contains (.type "BaseException") = true := by rw [bmX_has]; rfl
  unfold raiseStmt
  refine wpAny_bind (wpAny_mono h (fun v s₁ h₁ => ?_) fun _ _ x => x)
  obtain ⟨e, o, mN, mD, rfl, ⟨⟨nm, q, N, bs, sn, sub, ab, col, dd, k0, k1, k2, k3, k5, hC, hN⟩, _⟩, he, hc, ⟨tt, hdt⟩, hE⟩ := h₁
  obtain ⟨hp, g, d, tk, os⟩ := s₁
  obtain ⟨oc, od, odt, osl⟩ := o
  dsimp only at hc hdt
  subst hc
  subst hdt
  repeat (first | with_reducible refine wpAny_loadPart_at he ?_ | with_reducible refine wpAny_loadPart_at hC ?_ | (with_reducible refine wpAny_isSubtype_exc hC ?_; rw [hcB]) | wp_step)
  exact wpAny_raiseNew_none hh hE
theorem raise_fault {h₀ : Heap} {L a : Addr} {m mg mb : PySem.Str → Option Value} {mean : ExcName → Option Value} {name : PySem.Str} {scope : Scope} {cd : Value} {np cp cpos pos : Pos} {msg : PySem.Str} {kd : _} {Q : Flow → Shared → Prop}
    (F : Fr h₀ L s.heap m) (X : (hd.heap_39 w.params).In h₀) (T : Top hd.view_39 LS mean mg mb h₀) (hh : A.handled = none) (hroom : A.depth + 1 < recursionLimit)
    (h : ∀ h' tk' e, MadeX s.heap h' e → E (.ref e) { s with heap := h', toks := tk' })
    (hk : scope.kind = .function := by rfl) (hx : (envOf name scope L a cd).kindOf "NumberFault" = some .globalImplicit := by rfl) :
    wpAny (model PySem.Challenge.rw_nu0010_01.row.prog w) A (exec (.Raise (some (.Call (.Name "NumberFault" np) [.Constant (.str msg) kd cp] [] cpos)) none pos) (envOf name scope L a cd)) Q E s := by
  rw [arm_exec_Raise]
  refine wpAny_bind (wpAny_standAt (fault_raiseStmt (C := 44) (D := 31) (I := 28) hh ?_))
  refine wpAny_bind (wpAny_mono (Q := fun v s₁ => ∃ e o mN mD, v = .ref e ∧ Fault s₁.heap 44 31 28 mN mD ∧ s₁.heap.get? e = some o ∧ o.cls = .ref 44 ∧ (∃ t, o.data = .fields #[t, .none, .none, .none, .bool false, .none]) ∧ E (.ref e) s₁) (wpAny_Call_ofName (name_K F X (topRead_of T) (v := .ref 44) (by kernel_rfl) ?_ hk hx)) (fun v s₃ h₃ => wpAny_bind (wpAny_standAt (wpAny_pure h₃))) fun _ _ x => x)
  unfold callWith
  refine wpAny_bind (wpAny_holding (wpAny_mono (Q := fun a s₂ => a = ⟨[.str msg s.toks], []⟩ ∧ s₂ = { s with toks := s.toks + 1 }) (Calls.evalArgs_plain (Calls.spliced_cons (wpAny_Constant_str (k := kd) (pos := cp) (Calls.spliced_nil ⟨rfl, rfl⟩)))) (fun a s₂ h₂ => wpAny_bind (wpAny_standAt ?_)) fun _ _ x => x))
  obtain ⟨rfl, rfl⟩ := h₂
  have X' : (hd.heap_39 w.params).In s.heap := X.keeps F.keep
  have Fl := fault_of X'
  obtain ⟨⟨nm, q, N, bs, sn, sub, ab, col, dd, k0, k1, k2, k3, k5, hC, hN⟩, _⟩ := id Fl
  obtain ⟨hp, g, d, tk, os⟩ := s
  refine wpAny_bind (wpAny_keeperOf_exc hC ?_)
  refine wpAny_bind (fault_call Fl (fault_none X' (by kernel_rfl)) (fault_initD X') (fun h' e hm => ?_))
  obtain ⟨tt, ht, _, _⟩ := hm.there
  refine fault_init (X'.keeps hm.keeps) ((T.nolimit.keeps F.keep).keeps hm.keeps) hroom ht (fun h₂ tk₂ k2 ⟨o₁, ho, hc₁, hd₁⟩ => ⟨rfl, ?_⟩)
  refine wpAny_bind (wpAny_holding (wpAny_point (wpAny_pure ?_)))
  have hk' : ∀ b o, hp.get? b = some o → h₂.get? b = some o := fun b o hb => k2 b o (fun q => by rw [q, hm.new] at hb; cases hb) (hm.keeps b o hb)
  exact ⟨e, o₁, _, _, rfl, Fl.keeps hk', ho, hc₁, ⟨_, hd₁⟩, h h₂ tk₂ e ⟨hk', hm.new, o₁, _, ho, hc₁, hd₁⟩⟩
end
end Mine
end
section
open PySem PySem.W PyProof.Rows PySem.Calls PySem.Spec
open Builtin Builtin.ObjectAttr
namespace Mine
section
variable {M : Model} {A : Around} {E : Value → Shared → Prop} {s' : Shared} {base g g₂ h : Heap} {outer : List Env} {L a e : Addr} {m : PySem.Str → Option Value} {name : PySem.Str} {scope : Scope} {cd : Value} {Q : Unit → Shared → Prop} {news : List (Addr × Obj)}
theorem leave_fault (K : Below A base outer g) (hx : MadeX h s'.heap e) (F : Fr g L h m) (N : News g L h news)
    (hQ : ∀ h', RaisedSN base g outer e (.ref 44) news h' → g.UpToSlots h' → Q () { s' with heap := h' }) (hk : scope.kind = .function := by rfl) :
    wpAny M (A.deeper (envOf name scope L a cd)) (leaving (envOf name scope L a cd) (.ref e)) Q E s' := by
  have K' := K.push (name := name) (a := a) (cd := cd) F hk
  have hin : ∀ env ∈ (envOf name scope L a cd :: outer), ∀ b, env.frame = some b → b ∈ (envOf name scope L a cd :: outer).filterMap (·.frame) := fun env he b hb => List.mem_filterMap.mpr ⟨env, he, hb⟩
  have st : base.StaysIn (hideAll h ((envOf name scope L a cd :: outer).filterMap (·.frame))) := fun b o q => hideAll_get _ (K'.stays b o q) fun hm => by
    rw [(K'.frames.mem hm).1] at q; cases q
  have sg : ∀ b o, g.get? b = some o → b ∉ outer.filterMap (·.frame) → (hideAll h ((envOf name scope L a cd :: outer).filterMap (·.frame))).get? b = some o := fun b o q nm => hideAll_get _ (F.keep b o q) fun hm => by
    rcases kts_mem hm with z | z
    · rw [z, kts_self F] at q
      cases q
    · exact nm z
  have hl : ∀ q ∈ news, (hideAll h ((envOf name scope L a cd :: outer).filterMap (·.frame))).get? q.1 = some q.2 ∧ g.get? q.1 = none ∧ base.get? q.1 = none := fun q hq => by
    refine ⟨hideAll_get _ (N q hq).1 fun hm => ?_, (N q hq).2.2, fresh_of_stays K.stays (N q hq).2.2⟩
    obtain ⟨env, he, hf⟩ := List.mem_filterMap.mp hm
    rcases List.mem_cons.mp he with rfl | he
    · exact (N q hq).2.1 (Option.some.inj hf).symm
    · obtain ⟨o, ho, _⟩ := (K.frames.mem (List.mem_filterMap.mpr ⟨env, he, hf⟩)).2
      rw [(N q hq).2.2] at ho; cases ho
  obtain ⟨ob, tp, he, hcls, hd⟩ := hx.there
  have hen : (hideAll h ((envOf name scope L a cd :: outer).filterMap (·.frame))).get? e = none := by
    cases q : (hideAll h ((envOf name scope L a cd :: outer).filterMap (·.frame))).get? e with
    | none => rfl
    | some o => have := of_hideAll _ q; rw [hx.new] at this; cases this
  refine wpAny_leaving_firstW (a0 := tp) K'.stack ((funFrames_hide K'.frames hin).of_keeps fun b o hb _ => ⟨o, hx.keeps b o hb, rfl⟩) rfl he (fun b o hb => hx.keeps b o (of_hideAll _ hb)) hen hd rfl rfl fun h' hL => ?_
  obtain ⟨k1, ⟨_, _, k2⟩, k3, k4⟩ := hL
  exact hQ h' ⟨_, tp, st, sg, hl, k1, hen, k2, by rw [← hcls]; exact k3⟩ (((Heap.UpToSlots.of_keeps F.keep).trans (Heap.UpToSlots.of_keeps hx.keeps)).trans k4)
end
section
variable {prog : Program} {w : World} {A₀ : Around} {E : Value → Shared → Prop} {s' : Shared} {base g g₀ G : Heap} {outer : List Env} {L a e C : Addr} {m : PySem.Str → Option Value} {name : PySem.Str} {scope : Scope} {cd : Value}
  {b₀ : Stmt} {suite : List Stmt} {pos np : Pos} {rest : List ExceptHandler} {Q : Flow → Shared → Prop} {news : List (Addr × Obj)} {KF : Frag}
  {p : Program} {loose : List PySem.Str} {mean : ExcName → Option Value} {mg mb : PySem.Str → Option Value} {x : PySem.Str} {cl : List (PySem.Str × Addr)}
theorem caught_fault (R : RaisedSN base G (envX name scope L a cd cl :: outer) e (.ref C) news s'.heap) (F : Fr g L G m) (K : Below A₀ base outer g) (hsm : G.UpToSlots s'.heap) (XB : KF.In base) (TB : Top p loose mean mg mb base)
    (D : KtsDicts (outer.filterMap (·.frame)) g) (T0 : KtsTurn (outer.filterMap (·.frame)) g₀ g)
    (ex : nsIn KF mainGlobals x = some (some (.ref C))) (q : ktsIn KF C "BaseException" = true)
    (k : ∀ h' g', KtsTurn (outer.filterMap (·.frame)) g₀ g' → Fr g' L h' m → News g' L h' news → Below A₀ base outer g' → KF.In g' → Top p loose mean mg mb g' → KtsDicts (outer.filterMap (·.frame)) g' →
      wpAny (model prog w) ((A₀.deeper (envX name scope L a cd cl)).mark (some (.ref e))) (execs (b₀ :: suite) (envX name scope L a cd cl)) Q E { s' with heap := h' })
    (hk : scope.kind = .function := by rfl) (hx : (envX name scope L a cd cl).kindOf x = some .globalImplicit := by rfl) (hd : (x == (PySem.Str.ofString "__debug__")) = false := by decide)
    (hE : PassesOwnAt (model prog w) ((A₀.deeper (envX name scope L a cd cl)).mark (some (.ref e))) (A₀.deeper (envX name scope L a cd cl)) (envX name scope L a cd cl) E := by passes_own) :
    wpAny (model prog w) (A₀.deeper (envX name scope L a cd cl)) (noteFrame (.ref e) (envX name scope L a cd cl))
      (fun _ s₂ => wpAny (model prog w) (A₀.deeper (envX name scope L a cd cl)) (setFlight (.ref e) none) (fun _ s₃ =>
        wpAny (model prog w) (A₀.deeper (envX name scope L a cd cl)) (handleBy (.ref e) (envX name scope L a cd cl) (.ExceptHandler (some (.Name x np)) none (b₀ :: suite) pos :: rest)) Q E s₃) E s₂) E s' := by
  obtain ⟨B, a0, hB, hBG, hl, hfl⟩ := R
  have hL : B.get? L = none := by
    obtain ⟨_, ⟨L', _, hf, hn', _⟩, _⟩ := hfl.2.2.1
    obtain rfl : L = L' := Option.some.inj hf
    exact hn'
  refine wpAny_looks_onW (Around.frames_deeper K.stack) rfl hfl fun h₄ hheld₄ hsm₄ => ?_
  refine wpAny_landsW hheld₄ fun h₅ hheld hsm₅' => ?_
  have hsm₅ := hsm₄.trans hsm₅'
  obtain ⟨g₅, T₅, F₅, K₅⟩ := kts_ground (name := name) (scope := scope) (a := a) (cd := cd) K F hBG hheld.1 (hsm.trans hsm₅)
  have X₅ : KF.In g₅ := XB.keeps K₅.stays
  have P₅ : TopRead p loose mg mb g₅ := topRead_of (TB.keeps K₅.stays)
  obtain ⟨ob, hob, hobc⟩ := hheld.there
  obtain ⟨nm, q', N, bs, bm, hdct, sn, sub, ab, col, dd, k0, k1, k2, k3, k5, newId, hC, hbase, hbT⟩ := kts_cls X₅ q
  have hC₅ := F₅.keep _ _ hC
  refine wpAny_handleBy_cons (codeAny_handlers_test (nameX_K F₅ X₅ P₅ ex ?_ hk hx hd)) (by intro q; cases q)
  refine wpAny_excMatches_sub_self hC₅ hob hobc hbase (codeAny_handlers_suite ?_)
  refine lands_againW hheld fun h₆ hfl₆ hsm₆ => ?_
  obtain ⟨g₆, T₆, F₆, K₆⟩ := kts_ground (name := name) (scope := scope) (a := a) (cd := cd) K F hBG hfl₆.1 ((hsm.trans hsm₅).trans hsm₆)
  have Nl : News g₆ L h₆ news := fun q hq => ⟨hfl₆.1 _ _ (hl q hq).1, (fun z => by have := (hl q hq).1; rw [z, hL] at this; cases this), T₆.none_ _ (kts_none F.keep (hl q hq).2.1)⟩
  have X₆ : KF.In g₆ := XB.keeps K₆.stays
  have P₆ : Top p loose mean mg mb g₆ := TB.keeps K₆.stays
  have D₆ : KtsDicts (outer.filterMap (·.frame)) g₆ := D.turn T₆
  exact wpAny_passesOwnAt hE (k h₆ g₆ (T0.trans T₆) F₆ Nl K₆ X₆ P₆ D₆)
end
/-- the contract of a def that raises the fault -/
def CutE (w : World) (f : Addr) (k : Nat) (news : List (Addr × Obj)) (vs : List Value) : Prop :=
  ∀ (mean : ExcName → Option Value) (mg mb : PySem.Str → Option Value) (dp un : Nat) (gd : Option (List Code)) (cn : PySem.Str) (cs : Scope) (a : Addr) (ccd : Value) (cl : List (PySem.Str × Addr)) (outer : List Env) (A₀ : Around) (base h₀ : Heap) (L : Addr) (m : PySem.Str → Option Value) (s : Shared) (Q E : Value → Shared → Prop),
    Below A₀ base outer h₀ → Fr h₀ L s.heap m → (hd.heap_39 w.params).In h₀ → News h₀ L s.heap news → Top hd.view_39 LS mean mg mb h₀ → cs.kind = .function → dp + k < recursionLimit → un + 8 * k < cLine →
    (∀ e G h' tk', Fr h₀ L G m → RaisedSN base G (envX cn cs L a ccd cl :: outer) e (.ref 44) news h' → G.UpToSlots h' → E (.ref e) { s with heap := h', toks := tk' }) →
    wpAny (model PySem.Challenge.rw_nu0010_01.row.prog w) (ktrTop dp un gd cn cs L a ccd cl outer) (call (.ref f) vs) Q E s
end Mine
end
section
open PySem PySem.W PyProof.Rows PySem.Calls PySem.Spec
namespace Mine
section
variable {prog : Program} {w : World} {A₀ A : Around} {s : Shared} {base h₀ g₀ : Heap} {L a : Addr} {m : PySem.Str → Option Value} {cn : PySem.Str} {cs : Scope} {ccd : Value} {news : List (Addr × Obj)} {K : Frag} {p : Program} {loose : List PySem.Str} {mean : ExcName → Option Value} {mg mb : PySem.Str → Option Value}
    {R : Result → Shared → Prop} {name qual : PySem.Str} {params : Arguments} {body : List Stmt} {scope : Scope} {dV kV doc pm cdv ct oc : Value} {an od : Option Addr} {osl : Array (Option Value)} {f : Addr} {args : Args} {binds : List (PySem.Str × Value)}
theorem code_cellsS0 (B : Below A₀ base [] h₀) (F : Fr h₀ L s.heap m) (X₀ : K.In h₀) (N : News h₀ L s.heap news) (T : Top p loose mean mg mb h₀) (hA : A.frames = some [envOf cn cs L a ccd])
    (ho : K.lookup f = some ⟨oc, od, .func (fnOf name qual params body scope dV kV doc pm an cdv ct), osl⟩) (hcd : codeIn K cdv qual = true) (hroom : A.depth < recursionLimit)
    (hbind : BindsTo s (fnOf name qual params body scope dV kV doc pm an cdv ct) args binds) (hkind : (binds.all fun y => scope.names.lookup y.1 == some .local || scope.names.lookup y.1 == some .cell) = true)
    (hnd : ((cellsFrom 0 scope.names []).map (·.1)).Nodup)
    (h : ∀ g L' h₁ tk cells, Fr h₀ L g m → Fr g L' h₁ (bindL (envOfC qual scope L' f cdv).kindOf binds fun _ => none) → News g L' h₁ (cells ++ news) →
      CellsAre (bindC (envOfC qual scope L' f cdv).kindOf binds fun _ => none) (cellsFrom (L' + 1) scope.names []) cells → Below A base [envOf cn cs L a ccd] g → K.In g → Top p loose mean mg mb g → KtsDicts ([envOf cn cs L a ccd].filterMap (·.frame)) g → (∀ p ∈ news, p.1 < L') →
      wpAny (model prog w) (A.deeper (envOfC qual scope L' f cdv)) (execs body (envOfC qual scope L' f cdv))
        (fun fl s' => LeaveS0 ([envOf cn cs L a ccd].filterMap (·.frame)) h₀ L m g R (match fl with | .ret v => v | _ => .none) s')
        (fun e s' => wpAny (model prog w) (A.deeper (envOfC qual scope L' f cdv)) (leaving (envOfC qual scope L' f cdv) e) (fun _ s'' => R (.error e) s'') (fun e' s'' => R (.error e') s'') s')
        { s with heap := h₁, toks := tk })
    (hck : cs.kind = .function) (hco : scope.isCoroutine = false) (hgen : scope.isGenerator = false) (hk : scope.kind = .function) : codeAny (model prog w) A (.call (.ref f) args) R s := by
  have X := X₀.keeps F.keep
  have hlim := T.nolimit
  refine codeAny_call_function hroom (X _ _ ho) rfl hco hgen rfl (codeRec_of X hcd) (hbind _ _ _ _ ?_)
  refine wpAny_newFunctionEnv_cells hk (kindsX hkind _) fun env' he s' x => ?_
  subst he
  refine ⟨(hlim.keeps F.keep).keeps x.toInCall.keep, codeAny_func ?_⟩
  obtain ⟨h₁, tk, rfl, _⟩ := x.done
  have hk₁ := x.toInCall.keep
  obtain ⟨cells, NC, Y⟩ := Cl.news (h₀ := s.heap) (Nat.le_refl _) fun n c hm => ⟨x.cell n c (lookup_of_mem_nodup (cellsFrom_names scope.names 0 (s.heap.objs.size + 1) [] [] rfl ▸ hnd) hm), x.above n c hm⟩
  obtain ⟨oL, es, ep, hLg, hLd, hN, hNs, st, B₂⟩ := kts_enter B F N hA hck
  refine wpAny_mono (h _ s.heap.objs.size h₁ tk cells ⟨hN _ hLg, st, F.above⟩ ⟨x.toInCall.ns, fun b o e => hk₁ b o (of_hideAll _ e), Nat.le_of_eq (hideAll_size _ _)⟩ (fun p hp => ?_) Y B₂ (X₀.keeps st) (T.keeps st) (fun b hb => by
      rcases kts_mem hb with rfl | z
      · exact ⟨oL, es, ep, hLg, hLd⟩
      · simp at z) (fun p hp => Heap.lt_size (N p hp).1)) (fun fl s' hl => ?_) fun _ _ y => y
  · rcases List.mem_append.mp hp with hp | hp
    · refine ⟨(NC p hp).1, (NC p hp).2.1, ?_⟩
      cases q : (hideAll s.heap (news.map (·.1))).get? p.1 with
      | none => rfl
      | some o => have := of_hideAll _ q; rw [(NC p hp).2.2] at this; cases this
    · exact ⟨hk₁ _ _ (N p hp).1, Nat.ne_of_lt (Heap.lt_size (N p hp).1), hideAll_none _ (List.mem_map_of_mem hp)⟩
  obtain ⟨g', L', m', news', T', F', N', k⟩ := hl
  have nL₀ : h₀.get? L = none := kts_self F
  obtain ⟨sl, hs⟩ := T'.up hLg
  refine k ⟨hNs sl _ (F'.keep _ _ hs), fun b o e => F'.keep b o (T'.other b o (st b o e) (fun q => by
    rcases kts_mem q with z | z
    · rw [z, nL₀] at e
      cases e
    · simp at z)), F.above⟩ fun p hp => ⟨(N' p hp).1, fun q => ?_, ?_⟩
  · have := (N' p hp).2.2; rw [q, hs] at this; cases this
  · cases q : h₀.get? p.1 with
    | none => rfl
    | some o =>
      obtain ⟨sl', hs'⟩ := T'.up (st _ _ q)
      have := (N' p hp).2.2
      rw [hs'] at this
      cases this
end
end Mine
end
section
open PySem PySem.W PyProof.Rows PySem.Calls PySem.Spec
namespace Mine
section
variable {prog : Program} {w : World} {K : Type} [DecidableEq K] {knd : HeapKind prog w K} {A : Around} {E : Value → Shared → Prop}
def CarH (knd : HeapKind prog w K) (h : Heap) : List (Value × Value) → List (K × Addr × Value) → Prop
  | [], [] => True
  | (key, v) :: vs, (k, a, v') :: kvs => (key = .ref a ∧ knd.is h k a ∧ v = v') ∧ CarH knd h vs kvs
  | _, _ => False
def mergedH (acc kvs : List (K × Addr × Value)) : List (K × Addr × Value) := kvs.foldl (fun acc x => storedH acc x.1 x.2.1 x.2.2) acc
theorem CarH.keeps {h h' : Heap} {d : Addr} {o : Obj} {es ep} (ho : h.get? d = some o) (hd : o.data = .dict es ep) (hs : Heap.SameBut d h h') : ∀ {vs : List (Value × Value)} {kvs : List (K × Addr × Value)}, CarH knd h vs kvs → CarH knd h' vs kvs
  | [], [], _ => trivial
  | (_, _) :: _, (_, _, _) :: _, ⟨⟨a, b, c⟩, r⟩ => ⟨⟨a, knd.keeps b ho hd hs, c⟩, CarH.keeps ho hd hs r⟩
  | [], _ :: _, h => h.elim
  | _ :: _, [], h => h.elim
theorem storedH_len (acc : List (K × Addr × Value)) (k : K) (a : Addr) (v : Value) : (storedH acc k a v).length ≤ acc.length + 1 := by
  unfold storedH; split <;> simp
theorem storeAllH {d : Addr} (hu : knd.room A) : ∀ (vs : List (Value × Value)) (kvs acc : List (K × Addr × Value)) (s : Shared) (Q : PUnit → Shared → Prop), CarH knd s.heap vs kvs → s.heap.DictOfH knd d acc → acc.length + kvs.length ≤ sizeLine →
    (∀ h' tk, h'.DictOfH knd d (mergedH acc kvs) → Heap.SameBut d s.heap h' → Q PUnit.unit { s with heap := h', toks := tk }) →
    wpAny (model prog w) A (forIn vs PUnit.unit fun (x : Value × Value) (_ : PUnit) => (do dictSet d x.1 x.2; pure (ForInStep.yield PUnit.unit) : Sem (ForInStep PUnit))) Q E s
  | [], [], acc, s, Q, _, hm, _, hQ => by
    rw [List.forIn_nil]
    exact wpAny_pure (hQ s.heap s.toks hm (Heap.SameBut.refl _ _))
  | (key, v) :: vs, (k, a, v') :: kvs, acc, s, Q, hc, hm, hsz, hQ => by
    obtain ⟨⟨rfl, hkey, rfl⟩, hc'⟩ := hc
    rw [List.length_cons] at hsz
    rw [List.forIn_cons]
    obtain ⟨o, es, ep, ho, hx, hd, r⟩ := id hm
    refine wpAny_bind (wpAny_bind (wpAny_dictSet_heap (hsz := by omega) hu hkey hm fun h₁ hm₁ hs₁ => wpAny_pure ?_))
    refine storeAllH hu vs kvs (storedH acc k a v) _ Q (CarH.keeps ho hd hs₁ hc') hm₁ (by have e := storedH_len acc k a v; omega) fun h' tk hm' hs' => ?_
    exact hQ h' tk hm' (hs₁.trans hs')
  | [], _ :: _, _, _, _, hc, _, _, _ => hc.elim
  | _ :: _, [], _, _, _, hc, _, _, _ => hc.elim
def MadeH (prog : Program) (w : World) {K : Type} [DecidableEq K] (knd : HeapKind prog w K) (d : Addr) (Q : Value → Shared → Prop) (vs : List (Value × Value)) (s₁ : Shared) : Prop :=
  ∃ kvs, CarH knd s₁.heap vs kvs ∧ s₁.heap.DictOfH knd d [] ∧ ∀ h' tk, h'.DictOfH knd d (mergedH [] kvs) → Heap.SameBut d s₁.heap h' → Q (.ref d) { s₁ with heap := h', toks := tk }
theorem CarH.length {h : Heap} : ∀ {vs : List (Value × Value)} {kvs : List (K × Addr × Value)}, CarH knd h vs kvs → kvs.length = vs.length
  | [], [], _ => rfl
  | (_, _) :: _, (_, _, _) :: _, h => by rw [List.length_cons, List.length_cons, CarH.length h.2]
  | [], _ :: _, h => h.elim
  | _ :: _, [], h => h.elim
variable {s : Shared}
theorem subDictH {pairs : List (Sem Value × Sem Value)} {Q : Value → Shared → Prop} (hu : knd.room A) (hlen : pairs.length ≤ 15)
    (h : wpAny (model prog w) A (evalPairs pairs) (fun vs s₁ => MadeH prog w knd s.heap.objs.size Q vs s₁) E
      { s with heap := s.heap.push { cls := .type "dict", data := .dict #[] } }) :
    wpAny (model prog w) A (subDict pairs) (fun d => Q (.ref d)) E s := by
  unfold subDict
  refine wpAny_bind (wpAny_alloc ?_)
  refine wpAny_bind (wpAny_holding ?_)
  rw [if_pos hlen]
  refine wpAny_bind (wpAny_mono (wpAny_evalPairs_len h) (fun vs s₁ h₁ => ?_) fun _ _ e => e)
  obtain ⟨hvl, kvs, hc, hm, hQ⟩ := h₁
  have hsz : ([] : List (K × Addr × Value)).length + kvs.length ≤ sizeLine := by
    have e := hc.length
    rw [sizeLine_eq, List.length_nil]; omega
  refine wpAny_holding ?_
  exact wpAny_bind (storeAllH hu vs kvs [] s₁ _ hc hm hsz fun h' tk hm' hs' => wpAny_pure (wpAny_pure (hQ h' tk hm' hs')))
variable {env : Env} {h₀ : Heap} {L : Addr} {m : PySem.Str → Option Value} {news : List (Addr × Obj)}
abbrev emptyD : Obj := { cls := .type "dict", data := .dict #[] }
theorem dictH_eval {keys : List (Option PySem.Expr)} {values : List PySem.Expr} {pos : Pos} {Q : Value → Shared → Prop} (hu : knd.room A) (F : Fr h₀ L s.heap m) (N : News h₀ L s.heap news)
    (hall : keys.all (·.isSome) = true) (hl : keys.length = values.length) (h0 : keys ≠ []) (hlen : keys.length ≤ 15)
    (h : ∀ (d : Addr) h', Fr h₀ L h' m → News h₀ L h' ((d, emptyD) :: news) → (∀ p ∈ news, p.1 < d) →
      wpAny (model prog w) A (evalPairs (pairTrees keys values env pos)) (fun vs s₁ => MadeH prog w knd d Q vs s₁) E { s with heap := h' }) :
    wpAny (model prog w) A (eval (.Dict keys values pos) env) Q E s := by
  have hn := pairTrees_length keys values env pos hall hl
  have hne : pairTrees keys values env pos ≠ [] := fun he => by
    rw [he] at hn
    exact h0 (List.length_eq_zero_iff.mp hn.symm)
  rw [arm_eval_Dict, zip_pairTrees keys values env pos hall hl, dictDisplay_pairs _ hne (by rw [hn]; omega)]
  refine wpAny_bind (wpAny_standAt (wpAny_bind (wpAny_mono (subDictH (knd := knd) (Q := Q) hu (by rw [hn]; exact hlen) ?_) (fun d s' q => wpAny_pure q) fun _ _ e => e)))
  exact h _ _ (F.push _) (news_pushed F N (fun b x e => Heap.get?_push_of_some _ e) (Heap.get?_push_size _ rfl) rfl) (fun p hp => Heap.lt_size (N p hp).1)
end

section
variable {prog : Program} {w : World} {A : Around} {E : Value → Shared → Prop} {s : Shared} {h₀ : Heap} {L : Addr} {m : PySem.Str → Option Value} {big rest : List (Addr × Obj)}
abbrev ITK (prog : Program) (w : World) : HeapKind prog w (List Int) := tupleKind (PySem.intKind prog w)
def waysXs (a1 a2 a3 a4 a5 a6 a7 a8 : Addr) (t1 t2 t3 t4 t5 t6 t7 t8 : Tok) : List (List Int × Addr × Value) := [([1, 0], a1, .int 0 t1), ([1, 1], a2, .int 45 t2), ([0, 1], a3, .int 90 t3), ([-1, 1], a4, .int 135 t4), ([-1, 0], a5, .int 180 t5), ([-1, -1], a6, .int 225 t6), ([0, -1], a7, .int 270 t7), ([1, -1], a8, .int 315 t8)]
def waysV (x y : Int) : Option Int := if x = 1 ∧ y = 0 then some 0 else if x = 1 ∧ y = 1 then some 45 else if x = 0 ∧ y = 1 then some 90 else if x = -1 ∧ y = 1 then some 135 else if x = -1 ∧ y = 0 then some 180 else if x = -1 ∧ y = -1 then some 225 else if x = 0 ∧ y = -1 then some 270 else if x = 1 ∧ y = -1 then some 315 else none
def WaysObj (prog : Program) (w : World) (o : Obj) (xs : List (List Int × Addr × Value)) : Prop := o.ExactDict ∧ ∃ es ep, o.data = .dict es ep ∧ es.toList = xs.map (entryOfKey (ITK prog w))
theorem key_of {h : Heap} {a : Addr} {x y : Int} {t u : Tok} (N : News h₀ L h big) (k : (a, pairObj (.int x t) (.int y u)) ∈ big) : (ITK prog w).is h [x, y] a :=
  ⟨_, _, _, N.get k, rfl, rfl, .cons (PySem.intKind_is _ _ _ _) (.cons (PySem.intKind_is _ _ _ _) .nil)⟩
theorem ways_atKey (a1 a2 a3 a4 a5 a6 a7 a8 : Addr) (t1 t2 t3 t4 t5 t6 t7 t8 : Tok) {x y v : Int} (h : waysV x y = some v) : ∃ a t, atKey (waysXs a1 a2 a3 a4 a5 a6 a7 a8 t1 t2 t3 t4 t5 t6 t7 t8) [x, y] = some (a, .int v t) := by
  unfold waysV at h
  repeat' (split at h)
  all_goals (first | (cases h; done) | (rename_i hc; obtain ⟨rfl, rfl⟩ := hc; cases h; exact ⟨_, _, rfl⟩))
theorem ways_made {d : Addr} {a1 a2 a3 a4 a5 a6 a7 a8 : Addr} {t1 t2 t3 t4 t5 t6 t7 t8 x1 x2 x3 x4 x5 x6 x7 x8 y1 y2 y3 y4 y5 y6 y7 y8 : Tok} {Q : Value → Shared → Prop} (F : Fr h₀ L s.heap m) (N : News h₀ L s.heap big) (k1 : (a1, pairObj (.int (1) x1) (.int (0) y1)) ∈ big) (k2 : (a2, pairObj (.int (1) x2) (.int (1) y2)) ∈ big) (k3 : (a3, pairObj (.int (0) x3) (.int (1) y3)) ∈ big) (k4 : (a4, pairObj (.int (-1) x4) (.int (1) y4)) ∈ big) (k5 : (a5, pairObj (.int (-1) x5) (.int (0) y5)) ∈ big) (k6 : (a6, pairObj (.int (-1) x6) (.int (-1) y6)) ∈ big) (k7 : (a7, pairObj (.int (0) x7) (.int (-1) y7)) ∈ big) (k8 : (a8, pairObj (.int (1) x8) (.int (-1) y8)) ∈ big)
    (W : WO d emptyD big rest) (h : ∀ h' o' tk, Fr h₀ L h' m → News h₀ L h' ((d, o') :: rest) → WaysObj prog w o' (waysXs a1 a2 a3 a4 a5 a6 a7 a8 t1 t2 t3 t4 t5 t6 t7 t8) → Q (.ref d) { s with heap := h', toks := tk }) :
    MadeH prog w (ITK prog w) d Q [(.ref a1, .int 0 t1), (.ref a2, .int 45 t2), (.ref a3, .int 90 t3), (.ref a4, .int 135 t4), (.ref a5, .int 180 t5), (.ref a6, .int 225 t6), (.ref a7, .int 270 t7), (.ref a8, .int 315 t8)] s := by
  have hm := N (d, emptyD) (W.1 _ List.mem_cons_self)
  have D0 : s.heap.DictOfH (ITK prog w) d [] := ⟨_, #[], 0, hm.1, ⟨rfl, rfl, rfl⟩, rfl, rfl, fun _ hx => by simp at hx, List.nodup_nil⟩
  refine ⟨waysXs a1 a2 a3 a4 a5 a6 a7 a8 t1 t2 t3 t4 t5 t6 t7 t8, ?_, D0, fun h' tk hD hs => ?_⟩
  · exact ⟨⟨rfl, key_of N k1, rfl⟩, ⟨rfl, key_of N k2, rfl⟩, ⟨rfl, key_of N k3, rfl⟩, ⟨rfl, key_of N k4, rfl⟩, ⟨rfl, key_of N k5, rfl⟩, ⟨rfl, key_of N k6, rfl⟩, ⟨rfl, key_of N k7, rfl⟩, ⟨rfl, key_of N k8, rfl⟩, trivial⟩
  · obtain ⟨o', es, ep, ho, hx, hd, he, his, hn⟩ := hD
    refine h h' o' tk (F.change hs hm.2.1 hm.2.2) (fun p hp => ?_) ⟨hx, es, ep, hd, he⟩
    rcases List.mem_cons.mp hp with rfl | hp
    · exact ⟨ho, hm.2⟩
    · have z := N p (W.1 p (List.mem_cons_of_mem _ hp))
      refine ⟨(hs.2 p.1 ?_).trans z.1, z.2⟩
      intro q
      rcases W.2 p hp with c | c
      · exact c q
      · rw [q, hm.1] at z
        exact c (congrArg Obj.cls (Option.some.inj z.1)).symm
theorem ways_item {value slice : PySem.Expr} {d sg : Addr} {o : Obj} {a1 a2 a3 a4 a5 a6 a7 a8 : Addr} {t1 t2 t3 t4 t5 t6 t7 t8 x1 x2 x3 x4 x5 x6 x7 x8 y1 y2 y3 y4 y5 y6 y7 y8 : Tok} {x y v : Int} {tx ty : Tok} {Q : Value → Shared → Prop} (hu : A.units + 1 < cLine) (N : News h₀ L s.heap big) (W : WaysObj prog w o (waysXs a1 a2 a3 a4 a5 a6 a7 a8 t1 t2 t3 t4 t5 t6 t7 t8)) (hd : (d, o) ∈ big) (k1 : (a1, pairObj (.int (1) x1) (.int (0) y1)) ∈ big) (k2 : (a2, pairObj (.int (1) x2) (.int (1) y2)) ∈ big) (k3 : (a3, pairObj (.int (0) x3) (.int (1) y3)) ∈ big) (k4 : (a4, pairObj (.int (-1) x4) (.int (1) y4)) ∈ big) (k5 : (a5, pairObj (.int (-1) x5) (.int (0) y5)) ∈ big) (k6 : (a6, pairObj (.int (-1) x6) (.int (-1) y6)) ∈ big) (k7 : (a7, pairObj (.int (0) x7) (.int (-1) y7)) ∈ big) (k8 : (a8, pairObj (.int (1) x8) (.int (-1) y8)) ∈ big)
    (ks : (sg, pairObj (.int x tx) (.int y ty)) ∈ big) (hv : waysV x y = some v) (h : ∀ t tk, Q (.int v t) { s with toks := tk })
    (hs : subscripted slice false (.ref d) (.ref sg) = operate [.ref d, .ref sg] (getItem (.ref d) (.ref sg)) := by with_unfolding_all rfl) :
    wpAny (model prog w) A (subscriptTail value slice (.ref d) (.ref sg)) Q E s := by
  obtain ⟨hx, es, ep, hdt, he⟩ := W
  have hm : s.heap.DictOfH (ITK prog w) d (waysXs a1 a2 a3 a4 a5 a6 a7 a8 t1 t2 t3 t4 t5 t6 t7 t8) := by
    refine ⟨o, es, ep, N.get hd, hx, hdt, he, fun q hq => ?_, by simp [waysXs]⟩
    simp only [waysXs, List.mem_cons, List.not_mem_nil, or_false] at hq
    rcases hq with rfl | rfl | rfl | rfl | rfl | rfl | rfl | rfl
    · exact key_of N k1
    · exact key_of N k2
    · exact key_of N k3
    · exact key_of N k4
    · exact key_of N k5
    · exact key_of N k6
    · exact key_of N k7
    · exact key_of N k8
  obtain ⟨a, t, hk⟩ := ways_atKey a1 a2 a3 a4 a5 a6 a7 a8 t1 t2 t3 t4 t5 t6 t7 t8 hv
  exact tail_any hm.typeIs slot_dict_getitem.lookup (wpAny_getItem_heap (knd := ITK prog w) (tupleKind_room_in1 hu) (key_of N ks) hm hk (h _ _)) hs
end
end Mine
end
section
namespace Mine
/-- a coordinate that the law of vectors draws -/
def VP (n d : Int) : Prop := ∃ t e, 0 ≤ t ∧ t < 13 ∧ (e = 1 ∨ e = 2 ∨ e = 3) ∧ n = fracT (t - 6) e ∧ d = fracB (t - 6) e
end Mine
end
section
open PySem PySem.W PyProof.Rows
namespace Mine
local macro_rules | `(tactic| tb_rel) => `(tactic| (refine' VN.ld ?F ?v; (case F => k_asm); (case v => exact rfl)))
local macro_rules | `(tactic| tb_rel) => `(tactic| first
  | exact IV.const
  | (refine' IV.name ?V; (case V => tb_rel))
  | (refine' IV.fst ?V ?N ?m; (case V => tb_rel); (case N => k_asm); (case m => k_slotget))
  | (refine' IV.snd ?V ?N ?m; (case V => tb_rel); (case N => k_asm); (case m => k_slotget))
  | (refine' IV.add ?a ?b; (case a => tb_rel); (case b => tb_rel))
  | (refine' IV.sub ?a ?b; (case a => tb_rel); (case b => tb_rel))
  | (refine' IV.mul ?a ?b ?p ?q ?r; (case a => tb_rel); (case b => tb_rel); (case p => bits_by_make); (case q => bits_by_make); (case r => decide))
  | (refine' IV.pow2 ?a ?p; (case a => tb_rel); (case p => first | with_reducible assumption | omega))
  | (refine' IV.fmodv ?a ?b ?p ?e; (case a => tb_rel); (case b => tb_rel); (case p => ktd_handed); (case e => with_reducible assumption))
  | (refine' IV.fmod ?a ?b ?p; (case a => tb_rel); (case b => tb_rel); (case p => ktd_handed))
  | (refine' IV.fdiv ?a ?b ?p ?q ?r; (case a => tb_rel); (case b => tb_rel); (case p => ktd_handed); (case q => bits_by_make); (case r => decide))
  | (refine' IV.neg ?a; (case a => tb_rel)))
local macro_rules | `(tactic| tb_rel) => `(tactic| first
  | (refine' BV.lt_t ?a ?b ?x; (case a => tb_rel); (case b => tb_rel); (case x => x_auto))
  | (refine' BV.lt_f ?a ?b ?x; (case a => tb_rel); (case b => tb_rel); (case x => x_auto))
  | (refine' BV.gt_t ?a ?b ?x; (case a => tb_rel); (case b => tb_rel); (case x => x_auto))
  | (refine' BV.gt_f ?a ?b ?x; (case a => tb_rel); (case b => tb_rel); (case x => x_auto))
  | (refine' BV.le_t ?a ?b ?x; (case a => tb_rel); (case b => tb_rel); (case x => x_auto))
  | (refine' BV.le_f ?a ?b ?x; (case a => tb_rel); (case b => tb_rel); (case x => x_auto))
  | (refine' BV.eq_t ?a ?b ?x; (case a => tb_rel); (case b => tb_rel); (case x => x_auto))
  | (refine' BV.eq_f ?a ?b ?x; (case a => tb_rel); (case b => tb_rel); (case x => x_auto))
  | (refine' BV.ne_t ?a ?b ?x; (case a => tb_rel); (case b => tb_rel); (case x => x_auto))
  | (refine' BV.ne_f ?a ?b ?x; (case a => tb_rel); (case b => tb_rel); (case x => x_auto))
  | exact BV.or0
  | exact BV.and0
  | (refine' BV.or_f ?a ?b; (case a => tb_rel); (case b => tb_rel))
  | (refine' BV.and_t ?a ?b; (case a => tb_rel); (case b => tb_rel))
  | (refine' BV.or_t ?a; (case a => tb_rel))
  | (refine' BV.and_f ?a; (case a => tb_rel)))
local macro_rules | `(tactic| walk_at "STEPS") => `(tactic| repeat' (first | (k_unfold; (try dsimp only)) | (k_end; wrow_close) | walk1 | (dsimp only; walk1) | (leave1; walk_say "STEP leave1"; try dsimp only) | ((show (_ : Value → Shared → Prop) _ _); k_unfold; (try dsimp only)) | fail "no step"))
local macro_rules | `(tactic| walk_at "WALK") => `(tactic| (refine wpAny_call ?_; (k_dflt walk_at "ENTER"); walk_at "STEPS"; all_goals walk_at "END"))
local macro_rules | `(tactic| ktr_room) => `(tactic| first | k_extra "ktr_room" | fail "ktr_room")
local macro_rules | `(tactic| ktr_units) => `(tactic| first | k_extra "ktr_units" | fail "ktr_units")
local macro_rules | `(tactic| k_ne) => `(tactic| first | k_extra "k_ne" | fail "k_ne")
local macro_rules | `(tactic| k_slotset) => `(tactic| first | k_extra "k_slotset" | fail "k_slotset")
local macro_rules | `(tactic| k_put) => `(tactic| first | k_extra "k_put" | fail "k_put")
local macro_rules | `(tactic| bits_by_make) => `(tactic| first | k_extra "bits_by_make" | fail "bits_by_make")
local macro_rules | `(tactic| k_slotget) => `(tactic| first | k_extra "k_slotget" | fail "k_slotget")
local macro_rules | `(tactic| k_get) => `(tactic| first | k_extra "k_get" | fail "k_get")
local macro_rules | `(tactic| ktd_handed) => `(tactic| first | k_extra "ktd_handed" | fail "ktd_handed")
local macro_rules | `(tactic| x_auto) => `(tactic| first | k_extra "x_auto" | fail "x_auto")
local macro_rules | `(tactic| k_data) => `(tactic| first | k_extra "k_data" | fail "k_data")
local macro_rules | `(tactic| lcg_off) => `(tactic| first | k_extra "lcg_off" | fail "lcg_off")
local macro_rules | `(tactic| walk_at $s:str) => `(tactic| first | k_extra $s | fail "line")
section
set_option maxHeartbeats 4000000 in
theorem cut_cd {w : World} {news : List (Addr × Obj)} {a b : Int} {t u : Tok} (hb : 0 ≤ b) : Cut w 53 1 news [.int a t, .int b u] (OInt (Int.gcd a b)) := by
  w_top off
  unfold Cut
  k_fill
  k_with_none
  k_with "ktr_room" => (first | exact dp_le (by with_reducible assumption) (by decide) | exact dp_le0 (by with_reducible assumption) (by decide) | exact Nat.lt_of_le_of_lt (Nat.le_add_right _ _) (by with_reducible assumption) | fail "room")
  k_with "ktr_units" => (first | exact un_le (by with_reducible assumption) (by decide) | exact un_le0 (by with_reducible assumption) (by decide) | exact Nat.lt_of_le_of_lt (Nat.le_add_right _ _) (by with_reducible assumption) | fail "units")
  k_with "k_slotset" => (intro p hp; repeat (first | exact hp | refine List.mem_cons_of_mem _ ?_))
  k_with "k_put" => (first | with_reducible rfl | omega | assumption | (simp only [Int.mul_one, Int.one_mul]; done) | (simp only [signV]; (repeat' split) <;> first | with_reducible rfl | omega) | k_extra "EQ")
  k_with "bits_by_make" => (first | with_reducible assumption | ((with_reducible apply bits_fracT); bits_by_make) | ((with_reducible apply bits_fracB); bits_by_make) | exact PySem.intBits_le_64 (by decide) (by decide) | exact PySem.intBits_le_64 (by omega) (by omega) | exact bits_lit200 (by decide +kernel) | fail "bits")
  k_with "k_slotget" => (first | exact List.mem_cons_self | with_reducible assumption | (refine' List.mem_cons_of_mem _ ?_; k_slotget) | fail "mem")
  k_with "subscriptTail Name Constant ref int" => (k_here; k_dflt (refine' item_tupleT (News.isTup ?zqn ?zqm) ?zqa ?zqb ?zqc ?zqd ?_; (case zqn => k_asm); (case zqm => k_slotget); (case zqa => decide); (case zqb => decide); (case zqc => exact rfl); (case zqd => exact rfl); k_whole))
  k_with "execs cons" => (with_reducible refine gen_toks3 (fun tk' => ?_))
  k_with "execs nil" => (with_reducible refine gen_toks3 (fun tk' => ?_))
  k_with "eval Name" => (k_here; k_dflt (first   | (refine' ld ?zqk1 ?zqk2 ?_; (case zqk1 => k_asm); (case zqk2 => exact rfl); k_whole)   | (refine' name_K ?zqkF ?zqk1 ?zqk2 ?zqk3 ?_; (case zqkF => k_asm); (case zqk1 => k_asm); (case zqk2 => k_asm); (case zqk3 => k_is); k_whole)))
  k_with "k_get" => (first | with_reducible assumption | k_slotget | exact Nat.le_trans (by with_reducible assumption) (by decide) | k_extra "P" | decide | omega | (refine intBits_le_64 ?_ ?_ <;> omega) | (exact Nat.le_trans (by bits_by_make) (by decide)) | assumption)
  k_with "ktd_handed" => (first | with_reducible assumption | decide | omega | k_extra "NZ")
  k_with "binaryOp FloorDiv int int" => (k_here; (with_reducible refine floordiv_int ?zqkbe ?_ (Or.inl (PyProof.noPylong_of_log2 ?zqkbp))); (case zqkbe => ktd_handed); (case zqkbp => exact log_of_bits (by bits_by_make) (by decide)))
  k_with "binaryOp Mod int int" => (k_here; (with_reducible refine mod_int' ?zqkbe ?_); (case zqkbe => ktd_handed))
  k_with "binaryOp Mod int int" => (with_reducible refine' mod_int_v ?zqhb ?zqe ?_; (case zqe => with_reducible assumption); (case zqhb => ktd_handed))
  k_with "binaryOp Mod int int" => (k_extra "MYMOD")
  k_with "binaryOp Mult int int" => (k_here; k_dflt (refine' PyProof.Rows.mul_int ?_ ?zqhm; (case zqhm => exact PyProof.Rows.mulOk_of_bits (by bits_by_make) (by bits_by_make) (by decide))))
  k_with "binaryOp Pow int int" => (with_reducible refine' pow2_int ?zqh ?_; (case zqh => first | with_reducible assumption | omega))
  k_with "exec Raise some none" => (exfalso; first | contradiction | omega)
  k_with "END" => (first   | (refine' ret_int ?zqh ?zqe ?zqF ?zqN ?zqsub; (case zqh => assumption); (case zqF => k_asm); (case zqN => k_asm); (case zqsub => k_slotset); (case zqe => k_put))   | (refine' ret_bool ?zqh ?zqe ?zqF ?zqN ?zqsub; (case zqh => assumption); (case zqF => k_asm); (case zqN => k_asm); (case zqsub => k_slotset); (case zqe => k_put))   | (refine' ret_pair ?zqh ?zqhm ?zqex ?zqey ?zqF ?zqN ?zqsub; (case zqh => assumption); (case zqF => k_asm); (case zqN => k_asm); (case zqsub => k_slotset); (case zqhm => k_slotget); (case zqex => k_put); (case zqey => k_put))   | (refine' ret_turn ?zqh ?zqhb ?zqhc ?zqhd ?zqe0 ?zqe1 ?zqe2 ?zqe3 ?zqF ?zqN ?zqsub; (case zqh => assumption); (case zqF => k_asm); (case zqN => k_asm); (case zqsub => k_slotset); (case zqhb => k_slotget); (case zqhc => k_slotget); (case zqhd => k_slotget); (case zqe0 => k_put); (case zqe1 => k_put); (case zqe2 => k_put); (case zqe3 => k_put)))
  k_with "exec While Compare cons nil" => (k_extra "MYWHILE")
  k_with "KswEnd" => (k_extra "MYTURN")
  k_with "x_auto" => (first | with_reducible assumption | omega | k_extra "FACT" | fail "fact")
  k_with "ite" => (first   | (with_reducible refine' ine_t ?zqh ?_; (case zqh => x_auto))   | (with_reducible refine' ine_f ?zqh ?_; (case zqh => x_auto))   | (with_reducible refine' ieq_t ?zqh ?_; (case zqh => x_auto))   | (with_reducible refine' ieq_f ?zqh ?_; (case zqh => x_auto))   | (with_reducible refine' dec_t ?zqh ?_; (case zqh => x_auto))   | (with_reducible refine' dec_f ?zqh ?_; (case zqh => x_auto)))
  k_with "eval BinOp" => (k_here; k_dflt (refine' IV.use ?zqd ?_; (case zqd => tb_rel); k_whole); intro t' tk')
  k_with "eval Tuple" => (k_here; k_dflt (refine' tup2 ?zqda ?zqdb ?zqF ?zqN ?_; (case zqda => tb_rel); (case zqdb => tb_rel); (case zqF => k_asm); (case zqN => k_asm); k_whole); intro D' t' u' h' tk' F' N' l1; (try k_lt l1); (try k_sweep))
  k_with "eval UnaryOp" => (k_here; k_dflt (refine' IV.use ?zqd ?_; (case zqd => tb_rel); k_whole); intro t' tk')
  k_with "eval Subscript" => (k_here; k_dflt (refine' IV.use ?zqd ?_; (case zqd => tb_rel); k_whole); intro t' tk')
  k_with "exec If" => (k_here; k_dflt (first | (refine' if_f ?zqd ?_; (case zqd => tb_rel); k_whole) | (refine' if_t ?zqd ?_; (case zqd => tb_rel); k_whole)); intro tk')
  k_with "OFFA" => (first | (refine' OffA.lt ?_; assumption) | (refine' OffA.cons ?zqc ?zqd; (case zqc => first | exact Or.inr (by k_cls) | exact Or.inl (by k_ne)); (case zqd => walk_at "OFFA")))
  k_with "WO" => (first | (refine' WO.here ?_; walk_at "OFFA") | (refine' WO.cons ?zqc ?zqd; (case zqc => first | exact Or.inr (by k_cls) | exact Or.inl (by k_ne)); (case zqd => walk_at "WO")))
  k_with "UnrEnd" => (refine' unr_end ?zqF ?zqN ?zqW ?_; (case zqF => k_asm); (case zqN => k_asm); (case zqW => walk_at "WO"))
  k_with "ENTER" => (refine' code_def ?zqk1 ?zqk2 ?zqk3 ?zqk4 ?zqk5 ?zqkA ?zqkF ?zqkK ?zqk6 ?zqk7 ?zqk8 ?zqk9 ?zqkB ?_ ?zqc2 ?zqc3 ?zqc4 ?zqc5; (case zqkA => exact rfl); (case zqkF => exact rfl); (case zqkK => assumption); (case zqk1 => k_asm); (case zqk2 => k_asm); (case zqk3 => k_asm); (case zqk4 => k_asm); (case zqk5 => k_asm); (case zqk6 => k_is); (case zqk7 => k_is); (case zqk8 => ktr_room); (case zqk9 => first | exact BindsTo.of_eq rfl | exact binds_K (by k_in) rfl (by k_is) rfl rfl rfl); (case zqc5 => decide); (case zqkB => exact locs rfl); (case zqc2 => exact rfl); (case zqc3 => exact rfl); (case zqc4 => exact rfl); k_whole; intro g' L' h' FG' F' N' B' X' T'; (try dsimp only); (try k_fold))
  intro mean mg mb dp un gd cn cs c ccd cl outer A₀ base h₀ L m s Q E B F X N T hk hd hu hret
  k_with "MYWHILE" => (
    with_unfolding_all refine' ksw_while (σ := Int × Int × Tok × Tok) (fun _ => news) (fun c => [(PySem.Str.ofString "first", .int c.1 c.2.2.1), (PySem.Str.ofString "second", .int c.2.1 c.2.2.2)]) (fun _ => True) [] (fun c => 0 ≤ c.1 ∧ 0 ≤ c.2.1 ∧ Int.gcd c.1 c.2.1 = Int.gcd a b) (fun c => c.2.1.toNat) (_, _, _, _) ?kF ?kn trivial ?kk ?kp ?turn ?hE
    case kF => k_asm
    case kn => (refine' cb_drop ?cbN ?cbS; (case cbN => k_asm); (case cbS => k_slotset))
    case kk => kst_all
    case kp => (refine ⟨?_, hb, ?_⟩; (dsimp only; split <;> omega); (dsimp only; split; simp only [Int.gcd, Int.natAbs_neg]; rfl))
    case hE => first | passes_own | with_unfolding_all passes_own
    rintro ⟨x, y, t1, t2⟩ u1 h1 tk1 - ⟨hx, hy, hg⟩ F1 N1
    dsimp only at hx hy hg F1 N1 ⊢
    try k_fold)
  k_with "MYTURN" => (
    rename News _ _ _ _ => lN
    refine' ksw_end (_, _, _, _) (by assumption) lN ?kn trivial ?kk ?ks ?kp ?km
    case kk => kst_all
    case kn => k_slotset
    case ks => (intro z h2 h3; simp only [List.forall_mem_cons, ne_eq] at h2; simp [h2, kstB])
    case kp => (dsimp only; refine ⟨hy, Int.fmod_nonneg_of_pos _ (by omega), ?_⟩; rw [gcd_turn hx (by omega)]; exact hg)
    case km => (dsimp only; have := Int.fmod_lt_of_pos x (b := y) (by omega); have := Int.fmod_nonneg_of_pos x (b := y) (by omega); omega))
  k_with "EQ" => exact gcd_end (by assumption) (by assumption) (by assumption) (by assumption)
  walk_at "WALK"

set_option maxHeartbeats 4000000 in
theorem cut_fraction {w : World} {news : List (Addr × Obj)} {a b : Int} {t u : Tok} (hb : b ≠ 0) (sb : Bt 4000 b) : Cut w 61 2 news [.int a t, .int b u] (OPair (fracT a b) (fracB a b)) := by
  unfold Cut
  k_fill
  k_with_none
  k_with "ktr_room" => (first | exact dp_le (by with_reducible assumption) (by decide) | exact dp_le0 (by with_reducible assumption) (by decide) | exact Nat.lt_of_le_of_lt (Nat.le_add_right _ _) (by with_reducible assumption) | fail "room")
  k_with "ktr_units" => (first | exact un_le (by with_reducible assumption) (by decide) | exact un_le0 (by with_reducible assumption) (by decide) | exact Nat.lt_of_le_of_lt (Nat.le_add_right _ _) (by with_reducible assumption) | fail "units")
  k_with "k_slotset" => (intro p hp; repeat (first | exact hp | refine List.mem_cons_of_mem _ ?_))
  k_with "k_put" => (first | with_reducible rfl | omega | assumption | (simp only [Int.mul_one, Int.one_mul]; done) | (simp only [signV]; (repeat' split) <;> first | with_reducible rfl | omega) | k_extra "EQ")
  k_with "bits_by_make" => (first | with_reducible assumption | ((with_reducible apply bits_fracT); bits_by_make) | ((with_reducible apply bits_fracB); bits_by_make) | exact PySem.intBits_le_64 (by decide) (by decide) | exact PySem.intBits_le_64 (by omega) (by omega) | exact bits_lit200 (by decide +kernel) | fail "bits")
  k_with "k_slotget" => (first | exact List.mem_cons_self | with_reducible assumption | (refine' List.mem_cons_of_mem _ ?_; k_slotget) | fail "mem")
  k_with "subscriptTail Name Constant ref int" => (k_here; k_dflt (refine' item_tupleT (News.isTup ?zqn ?zqm) ?zqa ?zqb ?zqc ?zqd ?_; (case zqn => k_asm); (case zqm => k_slotget); (case zqa => decide); (case zqb => decide); (case zqc => exact rfl); (case zqd => exact rfl); k_whole))
  k_with "execs cons" => (with_reducible refine gen_toks3 (fun tk' => ?_))
  k_with "execs nil" => (with_reducible refine gen_toks3 (fun tk' => ?_))
  k_with "eval Name" => (k_here; k_dflt (first   | (refine' ld ?zqk1 ?zqk2 ?_; (case zqk1 => k_asm); (case zqk2 => exact rfl); k_whole)   | (refine' name_K ?zqkF ?zqk1 ?zqk2 ?zqk3 ?_; (case zqkF => k_asm); (case zqk1 => k_asm); (case zqk2 => k_asm); (case zqk3 => k_is); k_whole)))
  k_with "k_get" => (first | with_reducible assumption | k_slotget | exact Nat.le_trans (by with_reducible assumption) (by decide) | k_extra "P" | decide | omega | (refine intBits_le_64 ?_ ?_ <;> omega) | (exact Nat.le_trans (by bits_by_make) (by decide)) | assumption)
  k_with "ktd_handed" => (first | with_reducible assumption | decide | omega | k_extra "NZ")
  k_with "binaryOp FloorDiv int int" => (k_here; (with_reducible refine floordiv_int ?zqkbe ?_ (Or.inl (PyProof.noPylong_of_log2 ?zqkbp))); (case zqkbe => ktd_handed); (case zqkbp => exact log_of_bits (by bits_by_make) (by decide)))
  k_with "binaryOp Mod int int" => (k_here; (with_reducible refine mod_int' ?zqkbe ?_); (case zqkbe => ktd_handed))
  k_with "binaryOp Mod int int" => (with_reducible refine' mod_int_v ?zqhb ?zqe ?_; (case zqe => with_reducible assumption); (case zqhb => ktd_handed))
  k_with "binaryOp Mod int int" => (k_extra "MYMOD")
  k_with "binaryOp Mult int int" => (k_here; k_dflt (refine' PyProof.Rows.mul_int ?_ ?zqhm; (case zqhm => exact PyProof.Rows.mulOk_of_bits (by bits_by_make) (by bits_by_make) (by decide))))
  k_with "binaryOp Pow int int" => (with_reducible refine' pow2_int ?zqh ?_; (case zqh => first | with_reducible assumption | omega))
  k_with "exec Raise some none" => (exfalso; first | contradiction | omega)
  k_with "END" => (first   | (refine' ret_int ?zqh ?zqe ?zqF ?zqN ?zqsub; (case zqh => assumption); (case zqF => k_asm); (case zqN => k_asm); (case zqsub => k_slotset); (case zqe => k_put))   | (refine' ret_bool ?zqh ?zqe ?zqF ?zqN ?zqsub; (case zqh => assumption); (case zqF => k_asm); (case zqN => k_asm); (case zqsub => k_slotset); (case zqe => k_put))   | (refine' ret_pair ?zqh ?zqhm ?zqex ?zqey ?zqF ?zqN ?zqsub; (case zqh => assumption); (case zqF => k_asm); (case zqN => k_asm); (case zqsub => k_slotset); (case zqhm => k_slotget); (case zqex => k_put); (case zqey => k_put))   | (refine' ret_turn ?zqh ?zqhb ?zqhc ?zqhd ?zqe0 ?zqe1 ?zqe2 ?zqe3 ?zqF ?zqN ?zqsub; (case zqh => assumption); (case zqF => k_asm); (case zqN => k_asm); (case zqsub => k_slotset); (case zqhb => k_slotget); (case zqhc => k_slotget); (case zqhd => k_slotget); (case zqe0 => k_put); (case zqe1 => k_put); (case zqe2 => k_put); (case zqe3 => k_put)))
  k_with "exec While Compare cons nil" => (k_extra "MYWHILE")
  k_with "KswEnd" => (k_extra "MYTURN")
  k_with "x_auto" => (first | with_reducible assumption | omega | k_extra "FACT" | fail "fact")
  k_with "ite" => (first   | (with_reducible refine' ine_t ?zqh ?_; (case zqh => x_auto))   | (with_reducible refine' ine_f ?zqh ?_; (case zqh => x_auto))   | (with_reducible refine' ieq_t ?zqh ?_; (case zqh => x_auto))   | (with_reducible refine' ieq_f ?zqh ?_; (case zqh => x_auto))   | (with_reducible refine' dec_t ?zqh ?_; (case zqh => x_auto))   | (with_reducible refine' dec_f ?zqh ?_; (case zqh => x_auto)))
  k_with "eval BinOp" => (k_here; k_dflt (refine' IV.use ?zqd ?_; (case zqd => tb_rel); k_whole); intro t' tk')
  k_with "eval Tuple" => (k_here; k_dflt (refine' tup2 ?zqda ?zqdb ?zqF ?zqN ?_; (case zqda => tb_rel); (case zqdb => tb_rel); (case zqF => k_asm); (case zqN => k_asm); k_whole); intro D' t' u' h' tk' F' N' l1; (try k_lt l1); (try k_sweep))
  k_with "eval UnaryOp" => (k_here; k_dflt (refine' IV.use ?zqd ?_; (case zqd => tb_rel); k_whole); intro t' tk')
  k_with "eval Subscript" => (k_here; k_dflt (refine' IV.use ?zqd ?_; (case zqd => tb_rel); k_whole); intro t' tk')
  k_with "exec If" => (k_here; k_dflt (first | (refine' if_f ?zqd ?_; (case zqd => tb_rel); k_whole) | (refine' if_t ?zqd ?_; (case zqd => tb_rel); k_whole)); intro tk')
  k_with "OFFA" => (first | (refine' OffA.lt ?_; assumption) | (refine' OffA.cons ?zqc ?zqd; (case zqc => first | exact Or.inr (by k_cls) | exact Or.inl (by k_ne)); (case zqd => walk_at "OFFA")))
  k_with "WO" => (first | (refine' WO.here ?_; walk_at "OFFA") | (refine' WO.cons ?zqc ?zqd; (case zqc => first | exact Or.inr (by k_cls) | exact Or.inl (by k_ne)); (case zqd => walk_at "WO")))
  k_with "UnrEnd" => (refine' unr_end ?zqF ?zqN ?zqW ?_; (case zqF => k_asm); (case zqN => k_asm); (case zqW => walk_at "WO"))
  k_with "ENTER" => (refine' code_def ?zqk1 ?zqk2 ?zqk3 ?zqk4 ?zqk5 ?zqkA ?zqkF ?zqkK ?zqk6 ?zqk7 ?zqk8 ?zqk9 ?zqkB ?_ ?zqc2 ?zqc3 ?zqc4 ?zqc5; (case zqkA => exact rfl); (case zqkF => exact rfl); (case zqkK => assumption); (case zqk1 => k_asm); (case zqk2 => k_asm); (case zqk3 => k_asm); (case zqk4 => k_asm); (case zqk5 => k_asm); (case zqk6 => k_is); (case zqk7 => k_is); (case zqk8 => ktr_room); (case zqk9 => first | exact BindsTo.of_eq rfl | exact binds_K (by k_in) rfl (by k_is) rfl rfl rfl); (case zqc5 => decide); (case zqkB => exact locs rfl); (case zqc2 => exact rfl); (case zqc3 => exact rfl); (case zqc4 => exact rfl); k_whole; intro g' L' h' FG' F' N' B' X' T'; (try dsimp only); (try k_fold))
  k_with "call ref" => (k_here; (refine' use_int (cut_cd ?zqp0) ?zqk1 ?zqk2 ?zqk3 ?zqk4 ?zqk5 ?zqkK ?zqkd ?zqku ?_); (case zqk1 => k_asm); (case zqk2 => k_asm); (case zqk3 => k_asm); (case zqk4 => k_asm); (case zqk5 => k_asm); (case zqkK => first | exact rfl | assumption); (case zqp0 => k_get); (case zqkd => ktr_room); (case zqku => ktr_units); k_whole; intro t' h' tk' F' N'; (try k_sweep); (try dsimp only); (try k_fold))
  intro mean mg mb dp un gd cn cs c ccd cl outer A₀ base h₀ L m s Q E B F X N T hk hd hu hret
  have g1 := gcd_ne (a := a) hb
  have g2 := gcd_ne (a := -a) (b := -b) (by omega)
  have s1 := bits_gcd (a := a) hb sb
  have s2 := bits_gcd (a := -a) (b := -b) (by omega) (intBits_neg_le sb)
  k_with "EQ" => first | exact fracT_pos (by assumption) | exact fracB_pos (by assumption) | exact fracT_neg (by assumption) | exact fracB_neg (by assumption)
  walk_at "WALK"
end
section
set_option maxHeartbeats 4000000 in
theorem cut_minus {w : World} {news : List (Addr × Obj)} {pa : Addr} {a0 a1 : Int} {ta ua : Tok} (ha : (pa, pairObj (.int a0 ta) (.int a1 ua)) ∈ news) {pb : Addr} {b0 b1 : Int} {tb ub : Tok} (hb : (pb, pairObj (.int b0 tb) (.int b1 ub)) ∈ news) (sa0 : Bt 1500 a0) (sa1 : Bt 1500 a1) (sb0 : Bt 1500 b0) (sb1 : Bt 1500 b1) (hz : a1 * b1 ≠ 0) : Cut w 68 3 news [.ref pa, .ref pb] (OPair (fracT (a0 * b1 - b0 * a1) (a1 * b1)) (fracB (a0 * b1 - b0 * a1) (a1 * b1))) := by
  w_top off
  unfold Cut
  k_fill
  k_with_none
  k_with "ktr_room" => (first | exact dp_le (by with_reducible assumption) (by decide) | exact dp_le0 (by with_reducible assumption) (by decide) | exact Nat.lt_of_le_of_lt (Nat.le_add_right _ _) (by with_reducible assumption) | fail "room")
  k_with "ktr_units" => (first | exact un_le (by with_reducible assumption) (by decide) | exact un_le0 (by with_reducible assumption) (by decide) | exact Nat.lt_of_le_of_lt (Nat.le_add_right _ _) (by with_reducible assumption) | fail "units")
  k_with "k_slotset" => (intro p hp; repeat (first | exact hp | refine List.mem_cons_of_mem _ ?_))
  k_with "k_put" => (first | with_reducible rfl | omega | assumption | (simp only [Int.mul_one, Int.one_mul]; done) | (simp only [signV]; (repeat' split) <;> first | with_reducible rfl | omega) | k_extra "EQ")
  k_with "bits_by_make" => (first | with_reducible assumption | ((with_reducible apply bits_fracT); bits_by_make) | ((with_reducible apply bits_fracB); bits_by_make) | exact PySem.intBits_le_64 (by decide) (by decide) | exact PySem.intBits_le_64 (by omega) (by omega) | exact bits_lit200 (by decide +kernel) | fail "bits")
  k_with "k_slotget" => (first | exact List.mem_cons_self | with_reducible assumption | (refine' List.mem_cons_of_mem _ ?_; k_slotget) | fail "mem")
  k_with "subscriptTail Name Constant ref int" => (k_here; k_dflt (refine' item_tupleT (News.isTup ?zqn ?zqm) ?zqa ?zqb ?zqc ?zqd ?_; (case zqn => k_asm); (case zqm => k_slotget); (case zqa => decide); (case zqb => decide); (case zqc => exact rfl); (case zqd => exact rfl); k_whole))
  k_with "execs cons" => (with_reducible refine gen_toks3 (fun tk' => ?_))
  k_with "execs nil" => (with_reducible refine gen_toks3 (fun tk' => ?_))
  k_with "eval Name" => (k_here; k_dflt (first   | (refine' ld ?zqk1 ?zqk2 ?_; (case zqk1 => k_asm); (case zqk2 => exact rfl); k_whole)   | (refine' name_K ?zqkF ?zqk1 ?zqk2 ?zqk3 ?_; (case zqkF => k_asm); (case zqk1 => k_asm); (case zqk2 => k_asm); (case zqk3 => k_is); k_whole)))
  k_with "k_get" => (first | with_reducible assumption | k_slotget | exact Nat.le_trans (by with_reducible assumption) (by decide) | k_extra "P" | decide | omega | (refine intBits_le_64 ?_ ?_ <;> omega) | (exact Nat.le_trans (by bits_by_make) (by decide)) | assumption)
  k_with "ktd_handed" => (first | with_reducible assumption | decide | omega | k_extra "NZ")
  k_with "binaryOp FloorDiv int int" => (k_here; (with_reducible refine floordiv_int ?zqkbe ?_ (Or.inl (PyProof.noPylong_of_log2 ?zqkbp))); (case zqkbe => ktd_handed); (case zqkbp => exact log_of_bits (by bits_by_make) (by decide)))
  k_with "binaryOp Mod int int" => (k_here; (with_reducible refine mod_int' ?zqkbe ?_); (case zqkbe => ktd_handed))
  k_with "binaryOp Mod int int" => (with_reducible refine' mod_int_v ?zqhb ?zqe ?_; (case zqe => with_reducible assumption); (case zqhb => ktd_handed))
  k_with "binaryOp Mod int int" => (k_extra "MYMOD")
  k_with "binaryOp Mult int int" => (k_here; k_dflt (refine' PyProof.Rows.mul_int ?_ ?zqhm; (case zqhm => exact PyProof.Rows.mulOk_of_bits (by bits_by_make) (by bits_by_make) (by decide))))
  k_with "binaryOp Pow int int" => (with_reducible refine' pow2_int ?zqh ?_; (case zqh => first | with_reducible assumption | omega))
  k_with "exec Raise some none" => (exfalso; first | contradiction | omega)
  k_with "END" => (first   | (refine' ret_int ?zqh ?zqe ?zqF ?zqN ?zqsub; (case zqh => assumption); (case zqF => k_asm); (case zqN => k_asm); (case zqsub => k_slotset); (case zqe => k_put))   | (refine' ret_bool ?zqh ?zqe ?zqF ?zqN ?zqsub; (case zqh => assumption); (case zqF => k_asm); (case zqN => k_asm); (case zqsub => k_slotset); (case zqe => k_put))   | (refine' ret_pair ?zqh ?zqhm ?zqex ?zqey ?zqF ?zqN ?zqsub; (case zqh => assumption); (case zqF => k_asm); (case zqN => k_asm); (case zqsub => k_slotset); (case zqhm => k_slotget); (case zqex => k_put); (case zqey => k_put))   | (refine' ret_turn ?zqh ?zqhb ?zqhc ?zqhd ?zqe0 ?zqe1 ?zqe2 ?zqe3 ?zqF ?zqN ?zqsub; (case zqh => assumption); (case zqF => k_asm); (case zqN => k_asm); (case zqsub => k_slotset); (case zqhb => k_slotget); (case zqhc => k_slotget); (case zqhd => k_slotget); (case zqe0 => k_put); (case zqe1 => k_put); (case zqe2 => k_put); (case zqe3 => k_put)))
  k_with "exec While Compare cons nil" => (k_extra "MYWHILE")
  k_with "KswEnd" => (k_extra "MYTURN")
  k_with "x_auto" => (first | with_reducible assumption | omega | k_extra "FACT" | fail "fact")
  k_with "ite" => (first   | (with_reducible refine' ine_t ?zqh ?_; (case zqh => x_auto))   | (with_reducible refine' ine_f ?zqh ?_; (case zqh => x_auto))   | (with_reducible refine' ieq_t ?zqh ?_; (case zqh => x_auto))   | (with_reducible refine' ieq_f ?zqh ?_; (case zqh => x_auto))   | (with_reducible refine' dec_t ?zqh ?_; (case zqh => x_auto))   | (with_reducible refine' dec_f ?zqh ?_; (case zqh => x_auto)))
  k_with "eval BinOp" => (k_here; k_dflt (refine' IV.use ?zqd ?_; (case zqd => tb_rel); k_whole); intro t' tk')
  k_with "eval Tuple" => (k_here; k_dflt (refine' tup2 ?zqda ?zqdb ?zqF ?zqN ?_; (case zqda => tb_rel); (case zqdb => tb_rel); (case zqF => k_asm); (case zqN => k_asm); k_whole); intro D' t' u' h' tk' F' N' l1; (try k_lt l1); (try k_sweep))
  k_with "eval UnaryOp" => (k_here; k_dflt (refine' IV.use ?zqd ?_; (case zqd => tb_rel); k_whole); intro t' tk')
  k_with "eval Subscript" => (k_here; k_dflt (refine' IV.use ?zqd ?_; (case zqd => tb_rel); k_whole); intro t' tk')
  k_with "exec If" => (k_here; k_dflt (first | (refine' if_f ?zqd ?_; (case zqd => tb_rel); k_whole) | (refine' if_t ?zqd ?_; (case zqd => tb_rel); k_whole)); intro tk')
  k_with "OFFA" => (first | (refine' OffA.lt ?_; assumption) | (refine' OffA.cons ?zqc ?zqd; (case zqc => first | exact Or.inr (by k_cls) | exact Or.inl (by k_ne)); (case zqd => walk_at "OFFA")))
  k_with "WO" => (first | (refine' WO.here ?_; walk_at "OFFA") | (refine' WO.cons ?zqc ?zqd; (case zqc => first | exact Or.inr (by k_cls) | exact Or.inl (by k_ne)); (case zqd => walk_at "WO")))
  k_with "UnrEnd" => (refine' unr_end ?zqF ?zqN ?zqW ?_; (case zqF => k_asm); (case zqN => k_asm); (case zqW => walk_at "WO"))
  k_with "ENTER" => (refine' code_def ?zqk1 ?zqk2 ?zqk3 ?zqk4 ?zqk5 ?zqkA ?zqkF ?zqkK ?zqk6 ?zqk7 ?zqk8 ?zqk9 ?zqkB ?_ ?zqc2 ?zqc3 ?zqc4 ?zqc5; (case zqkA => exact rfl); (case zqkF => exact rfl); (case zqkK => assumption); (case zqk1 => k_asm); (case zqk2 => k_asm); (case zqk3 => k_asm); (case zqk4 => k_asm); (case zqk5 => k_asm); (case zqk6 => k_is); (case zqk7 => k_is); (case zqk8 => ktr_room); (case zqk9 => first | exact BindsTo.of_eq rfl | exact binds_K (by k_in) rfl (by k_is) rfl rfl rfl); (case zqc5 => decide); (case zqkB => exact locs rfl); (case zqc2 => exact rfl); (case zqc3 => exact rfl); (case zqc4 => exact rfl); k_whole; intro g' L' h' FG' F' N' B' X' T'; (try dsimp only); (try k_fold))
  k_with "call ref" => (k_here; (refine' use_int (cut_cd ?zqp0) ?zqk1 ?zqk2 ?zqk3 ?zqk4 ?zqk5 ?zqkK ?zqkd ?zqku ?_); (case zqk1 => k_asm); (case zqk2 => k_asm); (case zqk3 => k_asm); (case zqk4 => k_asm); (case zqk5 => k_asm); (case zqkK => first | exact rfl | assumption); (case zqp0 => k_get); (case zqkd => ktr_room); (case zqku => ktr_units); k_whole; intro t' h' tk' F' N'; (try k_sweep); (try dsimp only); (try k_fold))
  k_with "call ref" => (k_here; (refine' use_pair (cut_fraction ?zqp0 ?zqp1) ?zqk1 ?zqk2 ?zqk3 ?zqk4 ?zqk5 ?zqkK ?zqkd ?zqku ?_); (case zqk1 => k_asm); (case zqk2 => k_asm); (case zqk3 => k_asm); (case zqk4 => k_asm); (case zqk5 => k_asm); (case zqkK => first | exact rfl | assumption); (case zqp0 => k_get); (case zqp1 => k_get); (case zqkd => ktr_room); (case zqku => ktr_units); k_whole; intro a' t' u' h' tk' F' N'; (try k_sweep); (try dsimp only); (try k_fold))
  intro mean mg mb dp un gd cn cs c ccd cl outer A₀ base h₀ L m s Q E B F X N T hk hd hu hret
  walk_at "WALK"
set_option maxHeartbeats 4000000 in
theorem cut_minusR {w : World} {news : List (Addr × Obj)} {pb : Addr} {b0 b1 : Int} {tb ub : Tok} (hb : (pb, pairObj (.int b0 tb) (.int b1 ub)) ∈ news) (sb0 : Bt 1500 b0) (sb1 : Bt 1500 b1) (hz : b1 ≠ 0) : Cut w 68 3 news [.ref 125, .ref pb] (OPair (fracT (90 * b1 - b0) b1) (fracB (90 * b1 - b0) b1)) := by
  unfold Cut
  k_fill
  intro mean mg mb dp un gd cn cs c ccd cl outer A₀ base h₀ L m s Q E B F X N T hk hd hu hret
  walk_at "WALK"
set_option maxHeartbeats 4000000 in
theorem cut_times {w : World} {news : List (Addr × Obj)} {pa : Addr} {a0 a1 : Int} {ta ua : Tok} (ha : (pa, pairObj (.int a0 ta) (.int a1 ua)) ∈ news) {pb : Addr} {b0 b1 : Int} {tb ub : Tok} (hb : (pb, pairObj (.int b0 tb) (.int b1 ub)) ∈ news) (sa0 : Bt 1500 a0) (sa1 : Bt 1500 a1) (sb0 : Bt 1500 b0) (sb1 : Bt 1500 b1) (hz : a1 * b1 ≠ 0) : Cut w 75 3 news [.ref pa, .ref pb] (OPair (fracT (a0 * b0) (a1 * b1)) (fracB (a0 * b0) (a1 * b1))) := by
  unfold Cut
  k_fill
  intro mean mg mb dp un gd cn cs c ccd cl outer A₀ base h₀ L m s Q E B F X N T hk hd hu hret
  walk_at "WALK"
set_option maxHeartbeats 4000000 in
theorem cut_divided {w : World} {news : List (Addr × Obj)} {pa : Addr} {a0 a1 : Int} {ta ua : Tok} (ha : (pa, pairObj (.int a0 ta) (.int a1 ua)) ∈ news) {pb : Addr} {b0 b1 : Int} {tb ub : Tok} (hb : (pb, pairObj (.int b0 tb) (.int b1 ub)) ∈ news) (sa0 : Bt 1500 a0) (sa1 : Bt 1500 a1) (sb0 : Bt 1500 b0) (sb1 : Bt 1500 b1) (hz : a1 * b0 ≠ 0) (hb0 : b0 ≠ 0) : Cut w 82 3 news [.ref pa, .ref pb] (OPair (fracT (a0 * b1) (a1 * b0)) (fracB (a0 * b1) (a1 * b0))) := by
  unfold Cut
  k_fill
  intro mean mg mb dp un gd cn cs c ccd cl outer A₀ base h₀ L m s Q E B F X N T hk hd hu hret
  walk_at "WALK"
set_option maxHeartbeats 4000000 in
theorem cut_dividedR {w : World} {news : List (Addr × Obj)} {pa : Addr} {a0 a1 : Int} {ta ua : Tok} (ha : (pa, pairObj (.int a0 ta) (.int a1 ua)) ∈ news) (sa0 : Bt 1500 a0) (sa1 : Bt 1500 a1) (hz : a1 ≠ 0) : Cut w 82 3 news [.ref pa, .ref 125] (OPair (fracT a0 (a1 * 90)) (fracB a0 (a1 * 90))) := by
  unfold Cut
  k_fill
  intro mean mg mb dp un gd cn cs c ccd cl outer A₀ base h₀ L m s Q E B F X N T hk hd hu hret
  walk_at "WALK"
set_option maxHeartbeats 4000000 in
theorem cut_negated {w : World} {news : List (Addr × Obj)} {pa : Addr} {a0 a1 : Int} {ta ua : Tok} (ha : (pa, pairObj (.int a0 ta) (.int a1 ua)) ∈ news) : Cut w 89 1 news [.ref pa] (OPair (-a0) a1) := by
  unfold Cut
  k_fill
  intro mean mg mb dp un gd cn cs c ccd cl outer A₀ base h₀ L m s Q E B F X N T hk hd hu hret
  walk_at "WALK"
set_option maxHeartbeats 4000000 in
theorem cut_absolute {w : World} {news : List (Addr × Obj)} {pa : Addr} {a0 a1 : Int} {ta ua : Tok} (ha : (pa, pairObj (.int a0 ta) (.int a1 ua)) ∈ news) : Cut w 96 1 news [.ref pa] (OPair (a0.natAbs) a1) := by
  unfold Cut
  k_fill
  intro mean mg mb dp un gd cn cs c ccd cl outer A₀ base h₀ L m s Q E B F X N T hk hd hu hret
  walk_at "WALK"
set_option maxHeartbeats 4000000 in
theorem cut_sign {w : World} {news : List (Addr × Obj)} {pa : Addr} {a0 a1 : Int} {ta ua : Tok} (ha : (pa, pairObj (.int a0 ta) (.int a1 ua)) ∈ news) : Cut w 103 1 news [.ref pa] (OInt (signV a0)) := by
  unfold Cut
  k_fill
  intro mean mg mb dp un gd cn cs c ccd cl outer A₀ base h₀ L m s Q E B F X N T hk hd hu hret
  walk_at "WALK"
set_option maxHeartbeats 4000000 in
theorem cut_compare {w : World} {news : List (Addr × Obj)} {pa : Addr} {a0 a1 : Int} {ta ua : Tok} (ha : (pa, pairObj (.int a0 ta) (.int a1 ua)) ∈ news) {pb : Addr} {b0 b1 : Int} {tb ub : Tok} (hb : (pb, pairObj (.int b0 tb) (.int b1 ub)) ∈ news) (sa0 : Bt 1500 a0) (sa1 : Bt 1500 a1) (sb0 : Bt 1500 b0) (sb1 : Bt 1500 b1) : Cut w 110 2 news [.ref pa, .ref pb] (OInt (signV (a0 * b1 - b0 * a1))) := by
  unfold Cut
  k_fill
  k_with "call ref" => (k_here; (refine' use_int (cut_sign ?zqp0) ?zqk1 ?zqk2 ?zqk3 ?zqk4 ?zqk5 ?zqkK ?zqkd ?zqku ?_); (case zqk1 => k_asm); (case zqk2 => k_asm); (case zqk3 => k_asm); (case zqk4 => k_asm); (case zqk5 => k_asm); (case zqkK => first | exact rfl | assumption); (case zqp0 => k_get); (case zqkd => ktr_room); (case zqku => ktr_units); k_whole; intro t' h' tk' F' N'; (try k_sweep); (try dsimp only); (try k_fold))
  intro mean mg mb dp un gd cn cs c ccd cl outer A₀ base h₀ L m s Q E B F X N T hk hd hu hret
  walk_at "WALK"
set_option maxHeartbeats 4000000 in
theorem cut_compareR {w : World} {news : List (Addr × Obj)} {pa : Addr} {a0 a1 : Int} {ta ua : Tok} (ha : (pa, pairObj (.int a0 ta) (.int a1 ua)) ∈ news) (sa0 : Bt 1500 a0) (sa1 : Bt 1500 a1) : Cut w 110 2 news [.ref pa, .ref 126] (OInt (signV (a0 - 45 * a1))) := by
  unfold Cut
  k_fill
  intro mean mg mb dp un gd cn cs c ccd cl outer A₀ base h₀ L m s Q E B F X N T hk hd hu hret
  walk_at "WALK"
set_option maxHeartbeats 4000000 in
theorem cut_floor {w : World} {news : List (Addr × Obj)} {pa : Addr} {a0 a1 : Int} {ta ua : Tok} (ha : (pa, pairObj (.int a0 ta) (.int a1 ua)) ∈ news) (hz : a1 ≠ 0) (sa1 : Bt 1500 a1) : Cut w 117 1 news [.ref pa] (OInt (a0.fdiv a1)) := by
  unfold Cut
  k_fill
  intro mean mg mb dp un gd cn cs c ccd cl outer A₀ base h₀ L m s Q E B F X N T hk hd hu hret
  walk_at "WALK"
set_option maxHeartbeats 4000000 in
theorem cut_rounded {w : World} {news : List (Addr × Obj)} {pa : Addr} {a0 a1 : Int} {ta ua : Tok} (ha : (pa, pairObj (.int a0 ta) (.int a1 ua)) ∈ news) (hz : a1 ≠ 0) (sa1 : Bt 1500 a1) : Cut w 124 1 news [.ref pa] (OInt ((2 * a0 + a1).fdiv (2 * a1))) := by
  unfold Cut
  k_fill
  intro mean mg mb dp un gd cn cs c ccd cl outer A₀ base h₀ L m s Q E B F X N T hk hd hu hret
  walk_at "WALK"
end
section
def serGo : Nat → Int → Int → Int → Int → Int → Option Int
  | 0, _, _, _, _, _ => none
  | n + 1, sq, sc, total, term, step =>
    if term = 0 then some total else
    if term.natAbs < 2 ^ 200 ∧ 1 ≤ step ∧ step < 1000 then serGo n sq sc (total + term) (-(((term * sq).fdiv sc).fdiv (step * (step + 1)))) (step + 2)
    else none
theorem serGo_step {n : Nat} {sq sc total term step r : Int} (h : serGo n sq sc total term step = some r) :
    (term = 0 ∧ total = r) ∨ (term ≠ 0 ∧ term.natAbs < 2 ^ 200 ∧ 1 ≤ step ∧ step < 1000 ∧ ∃ n', n = n' + 1 ∧ serGo n' sq sc (total + term) (-(((term * sq).fdiv sc).fdiv (step * (step + 1)))) (step + 2) = some r) := by
  cases n with
  | zero => cases h
  | succ n =>
    unfold serGo at h
    split at h
    · exact .inl ⟨by assumption, Option.some.inj h⟩
    · split at h
      · rename_i h1 h2
        exact .inr ⟨h1, h2.1, h2.2.1, h2.2.2, n, rfl, h⟩
      · cases h
theorem step_ne {s : Int} (h : 1 ≤ s) : s * (s + 1) ≠ 0 := by
  have : 0 < s * (s + 1) := Int.mul_pos (by omega) (by omega)
  omega
theorem bits_of_lt {x : Int} {m : Nat} (h : x.natAbs < 2 ^ m) : PySem.Builtin.Int.intBits x ≤ m := intBits_le_iff.mpr h
theorem bits_of_range {x : Int} (h0 : 0 ≤ x) (h1 : x < 1000) : PySem.Builtin.Int.intBits x ≤ 10 := intBits_le_iff.mpr (by omega)
set_option maxHeartbeats 4000000 in
theorem cut_series {w : World} {news : List (Addr × Obj)} {fi sq sc bg r : Int} {t1 t2 t3 t4 : Tok} (H : serGo 60 sq sc 0 fi bg = some r) (hsc : sc ≠ 0) (ssq : Bt 2000 sq) (ssc : Bt 1000 sc) : Cut w 140 1 news [.int fi t1, .int sq t2, .int sc t3, .int bg t4] (OInt r) := by
  w_top off
  unfold Cut
  k_fill
  k_with_none
  k_with "ktr_room" => (first | exact dp_le (by with_reducible assumption) (by decide) | exact dp_le0 (by with_reducible assumption) (by decide) | exact Nat.lt_of_le_of_lt (Nat.le_add_right _ _) (by with_reducible assumption) | fail "room")
  k_with "ktr_units" => (first | exact un_le (by with_reducible assumption) (by decide) | exact un_le0 (by with_reducible assumption) (by decide) | exact Nat.lt_of_le_of_lt (Nat.le_add_right _ _) (by with_reducible assumption) | fail "units")
  k_with "k_slotset" => (intro p hp; repeat (first | exact hp | refine List.mem_cons_of_mem _ ?_))
  k_with "k_put" => (first | with_reducible rfl | omega | assumption | (simp only [Int.mul_one, Int.one_mul]; done) | (simp only [signV]; (repeat' split) <;> first | with_reducible rfl | omega) | k_extra "EQ")
  k_with "bits_by_make" => (first | with_reducible assumption | ((with_reducible apply bits_fracT); bits_by_make) | ((with_reducible apply bits_fracB); bits_by_make) | exact PySem.intBits_le_64 (by decide) (by decide) | exact PySem.intBits_le_64 (by omega) (by omega) | exact bits_lit200 (by decide +kernel) | fail "bits")
  k_with "k_slotget" => (first | exact List.mem_cons_self | with_reducible assumption | (refine' List.mem_cons_of_mem _ ?_; k_slotget) | fail "mem")
  k_with "subscriptTail Name Constant ref int" => (k_here; k_dflt (refine' item_tupleT (News.isTup ?zqn ?zqm) ?zqa ?zqb ?zqc ?zqd ?_; (case zqn => k_asm); (case zqm => k_slotget); (case zqa => decide); (case zqb => decide); (case zqc => exact rfl); (case zqd => exact rfl); k_whole))
  k_with "execs cons" => (with_reducible refine gen_toks3 (fun tk' => ?_))
  k_with "execs nil" => (with_reducible refine gen_toks3 (fun tk' => ?_))
  k_with "eval Name" => (k_here; k_dflt (first   | (refine' ld ?zqk1 ?zqk2 ?_; (case zqk1 => k_asm); (case zqk2 => exact rfl); k_whole)   | (refine' name_K ?zqkF ?zqk1 ?zqk2 ?zqk3 ?_; (case zqkF => k_asm); (case zqk1 => k_asm); (case zqk2 => k_asm); (case zqk3 => k_is); k_whole)))
  k_with "k_get" => (first | with_reducible assumption | k_slotget | exact Nat.le_trans (by with_reducible assumption) (by decide) | k_extra "P" | decide | omega | (refine intBits_le_64 ?_ ?_ <;> omega) | (exact Nat.le_trans (by bits_by_make) (by decide)) | assumption)
  k_with "ktd_handed" => (first | with_reducible assumption | decide | omega | k_extra "NZ")
  k_with "binaryOp FloorDiv int int" => (k_here; (with_reducible refine floordiv_int ?zqkbe ?_ (Or.inl (PyProof.noPylong_of_log2 ?zqkbp))); (case zqkbe => ktd_handed); (case zqkbp => exact log_of_bits (by bits_by_make) (by decide)))
  k_with "binaryOp Mod int int" => (k_here; (with_reducible refine mod_int' ?zqkbe ?_); (case zqkbe => ktd_handed))
  k_with "binaryOp Mod int int" => (with_reducible refine' mod_int_v ?zqhb ?zqe ?_; (case zqe => with_reducible assumption); (case zqhb => ktd_handed))
  k_with "binaryOp Mod int int" => (k_extra "MYMOD")
  k_with "binaryOp Mult int int" => (k_here; k_dflt (refine' PyProof.Rows.mul_int ?_ ?zqhm; (case zqhm => exact PyProof.Rows.mulOk_of_bits (by bits_by_make) (by bits_by_make) (by decide))))
  k_with "binaryOp Pow int int" => (with_reducible refine' pow2_int ?zqh ?_; (case zqh => first | with_reducible assumption | omega))
  k_with "exec Raise some none" => (exfalso; first | contradiction | omega)
  k_with "END" => (first   | (refine' ret_int ?zqh ?zqe ?zqF ?zqN ?zqsub; (case zqh => assumption); (case zqF => k_asm); (case zqN => k_asm); (case zqsub => k_slotset); (case zqe => k_put))   | (refine' ret_bool ?zqh ?zqe ?zqF ?zqN ?zqsub; (case zqh => assumption); (case zqF => k_asm); (case zqN => k_asm); (case zqsub => k_slotset); (case zqe => k_put))   | (refine' ret_pair ?zqh ?zqhm ?zqex ?zqey ?zqF ?zqN ?zqsub; (case zqh => assumption); (case zqF => k_asm); (case zqN => k_asm); (case zqsub => k_slotset); (case zqhm => k_slotget); (case zqex => k_put); (case zqey => k_put))   | (refine' ret_turn ?zqh ?zqhb ?zqhc ?zqhd ?zqe0 ?zqe1 ?zqe2 ?zqe3 ?zqF ?zqN ?zqsub; (case zqh => assumption); (case zqF => k_asm); (case zqN => k_asm); (case zqsub => k_slotset); (case zqhb => k_slotget); (case zqhc => k_slotget); (case zqhd => k_slotget); (case zqe0 => k_put); (case zqe1 => k_put); (case zqe2 => k_put); (case zqe3 => k_put)))
  k_with "exec While Compare cons nil" => (k_extra "MYWHILE")
  k_with "KswEnd" => (k_extra "MYTURN")
  k_with "x_auto" => (first | with_reducible assumption | omega | k_extra "FACT" | fail "fact")
  k_with "ite" => (first   | (with_reducible refine' ine_t ?zqh ?_; (case zqh => x_auto))   | (with_reducible refine' ine_f ?zqh ?_; (case zqh => x_auto))   | (with_reducible refine' ieq_t ?zqh ?_; (case zqh => x_auto))   | (with_reducible refine' ieq_f ?zqh ?_; (case zqh => x_auto))   | (with_reducible refine' dec_t ?zqh ?_; (case zqh => x_auto))   | (with_reducible refine' dec_f ?zqh ?_; (case zqh => x_auto)))
  k_with "eval BinOp" => (k_here; k_dflt (refine' IV.use ?zqd ?_; (case zqd => tb_rel); k_whole); intro t' tk')
  k_with "eval Tuple" => (k_here; k_dflt (refine' tup2 ?zqda ?zqdb ?zqF ?zqN ?_; (case zqda => tb_rel); (case zqdb => tb_rel); (case zqF => k_asm); (case zqN => k_asm); k_whole); intro D' t' u' h' tk' F' N' l1; (try k_lt l1); (try k_sweep))
  k_with "eval UnaryOp" => (k_here; k_dflt (refine' IV.use ?zqd ?_; (case zqd => tb_rel); k_whole); intro t' tk')
  k_with "eval Subscript" => (k_here; k_dflt (refine' IV.use ?zqd ?_; (case zqd => tb_rel); k_whole); intro t' tk')
  k_with "exec If" => (k_here; k_dflt (first | (refine' if_f ?zqd ?_; (case zqd => tb_rel); k_whole) | (refine' if_t ?zqd ?_; (case zqd => tb_rel); k_whole)); intro tk')
  k_with "OFFA" => (first | (refine' OffA.lt ?_; assumption) | (refine' OffA.cons ?zqc ?zqd; (case zqc => first | exact Or.inr (by k_cls) | exact Or.inl (by k_ne)); (case zqd => walk_at "OFFA")))
  k_with "WO" => (first | (refine' WO.here ?_; walk_at "OFFA") | (refine' WO.cons ?zqc ?zqd; (case zqc => first | exact Or.inr (by k_cls) | exact Or.inl (by k_ne)); (case zqd => walk_at "WO")))
  k_with "UnrEnd" => (refine' unr_end ?zqF ?zqN ?zqW ?_; (case zqF => k_asm); (case zqN => k_asm); (case zqW => walk_at "WO"))
  k_with "ENTER" => (refine' code_def ?zqk1 ?zqk2 ?zqk3 ?zqk4 ?zqk5 ?zqkA ?zqkF ?zqkK ?zqk6 ?zqk7 ?zqk8 ?zqk9 ?zqkB ?_ ?zqc2 ?zqc3 ?zqc4 ?zqc5; (case zqkA => exact rfl); (case zqkF => exact rfl); (case zqkK => assumption); (case zqk1 => k_asm); (case zqk2 => k_asm); (case zqk3 => k_asm); (case zqk4 => k_asm); (case zqk5 => k_asm); (case zqk6 => k_is); (case zqk7 => k_is); (case zqk8 => ktr_room); (case zqk9 => first | exact BindsTo.of_eq rfl | exact binds_K (by k_in) rfl (by k_is) rfl rfl rfl); (case zqc5 => decide); (case zqkB => exact locs rfl); (case zqc2 => exact rfl); (case zqc3 => exact rfl); (case zqc4 => exact rfl); k_whole; intro g' L' h' FG' F' N' B' X' T'; (try dsimp only); (try k_fold))
  k_with "call ref" => (k_here; k_dflt (refine' use_int (cut_cd ?zqp0) ?zqk1 ?zqk2 ?zqk3 ?zqk4 ?zqk5 ?zqkK ?zqkd ?zqku ?_; (case zqk1 => k_asm); (case zqk2 => k_asm); (case zqk3 => k_asm); (case zqk4 => k_asm); (case zqk5 => k_asm); (case zqkK => first | exact rfl | assumption); (case zqp0 => k_get); (case zqkd => ktr_room); (case zqku => ktr_units); k_whole; intro t' h' tk' F' N'; (try k_sweep); (try dsimp only); (try k_fold)))
  k_with "call ref" => (k_here; k_dflt (refine' use_pair (cut_fraction ?zqp0 ?zqp1) ?zqk1 ?zqk2 ?zqk3 ?zqk4 ?zqk5 ?zqkK ?zqkd ?zqku ?_; (case zqk1 => k_asm); (case zqk2 => k_asm); (case zqk3 => k_asm); (case zqk4 => k_asm); (case zqk5 => k_asm); (case zqkK => first | exact rfl | assumption); (case zqp0 => k_get); (case zqp1 => k_get); (case zqkd => ktr_room); (case zqku => ktr_units); k_whole; intro a' t' u' h' tk' F' N'; (try k_sweep); (try dsimp only); (try k_fold)))
  intro mean mg mb dp un gd cn cs c ccd cl outer A₀ base h₀ L m s Q E B F X N T hk hd hu hret
  k_with "MYWHILE" => (
    with_unfolding_all refine' ksw_while (σ := Nat × Int × Int × Int × Tok × Tok × Tok) (fun _ => news) (fun c => [(PySem.Str.ofString "total", .int c.2.1 c.2.2.2.2.1), (PySem.Str.ofString "term", .int c.2.2.1 c.2.2.2.2.2.1), (PySem.Str.ofString "step", .int c.2.2.2.1 c.2.2.2.2.2.2)]) (fun _ => True) [] (fun c => serGo c.1 sq sc c.2.1 c.2.2.1 c.2.2.2.1 = some r) (fun c => c.1) (60, _, _, _, _, _, _) ?kF ?kn trivial ?kk ?kp ?turn ?hE
    case kF => k_asm
    case kk => kst_all
    case kn => (refine' cb_drop ?cbN ?cbS; (case cbN => k_asm); (case cbS => k_slotset))
    case kp => exact H
    case hE => first | passes_own | with_unfolding_all passes_own
    rintro ⟨n, total, term, step, t1, t2, t3⟩ u1 h1 tk1 - hP F1 N1
    dsimp only at hP F1 N1 ⊢
    have hP' := serGo_step hP
    rcases hP' with ⟨hz, hr⟩ | ⟨hz, hb1, hs1, hs2, n', hn, hP'⟩
    rotate_left
    have hb2 := bits_of_lt hb1
    have hb3 := bits_of_range (x := step) (by omega) hs2
    have hb4 := step_ne hs1
    try k_fold
    rotate_left
    subst hz
    try k_fold)
  k_with "MYTURN" => (
    rename News _ _ _ _ => lN
    refine' ksw_end (n', _, _, _, _, _, _) (by assumption) lN ?kn trivial ?kk ?ks ?kp ?km
    case kk => kst_all
    case kn => k_slotset
    case ks => (intro z h2 h3; simp only [List.forall_mem_cons, ne_eq] at h2; simp [h2, kstB])
    case kp => exact hP'
    case km => (dsimp only; omega))
  walk_at "WALK"
end
section
def ptI : Int := 314159265358979323846264338327950288419716939937510
structure Ser (sq sc fi bg r : Int) : Prop where
  h : serGo 60 sq sc 0 fi bg = some r
def stR (n d bt : Int) : Option (Int × Int × Int × Int) :=
  let sc := bt * 65536
  let rad := (n * 314159265358979323846264338327950288419716939937510 * sc).fdiv (180 * d * 100000000000000000000000000000000000000000000000000)
  let sq := (rad * rad).fdiv sc
  match serGo 60 sq sc 0 sc 1 with
  | none => none
  | some C => match serGo 60 sq sc 0 rad 2 with
    | none => none
    | some S => if C.natAbs < 2 ^ 200 ∧ S.natAbs < 2 ^ 200 then some (fracT (rdV C sc bt) bt, fracB (rdV C sc bt) bt, fracT (rdV S sc bt) bt, fracB (rdV S sc bt) bt) else none
theorem stR_inv {n d bt c0 c1 s0 s1 : Int} (h : stR n d bt = some (c0, c1, s0, s1)) : ∃ rad sq C S : Int,
    (n * 314159265358979323846264338327950288419716939937510 * (bt * 65536)).fdiv (180 * d * 100000000000000000000000000000000000000000000000000) = rad ∧
    (rad * rad).fdiv (bt * 65536) = sq ∧ Ser sq (bt * 65536) (bt * 65536) 1 C ∧ Ser sq (bt * 65536) rad 2 S ∧ C.natAbs < 2 ^ 200 ∧ S.natAbs < 2 ^ 200 ∧
    fracT (rdV C (bt * 65536) bt) bt = c0 ∧ fracB (rdV C (bt * 65536) bt) bt = c1 ∧ fracT (rdV S (bt * 65536) bt) bt = s0 ∧ fracB (rdV S (bt * 65536) bt) bt = s1 := by
  unfold stR at h
  dsimp only at h
  split at h
  · cases h
  · rename_i C hC
    split at h
    · cases h
    · rename_i S hS
      split at h
      · rename_i hb
        injection h with h
        injection h with h0 h
        injection h with h1 h
        injection h with h2 h3
        exact ⟨_, _, C, S, rfl, rfl, ⟨hC⟩, ⟨hS⟩, hb.1, hb.2, h0, h1, h2, h3⟩
      · cases h
theorem cut_serS {w : World} {news : List (Addr × Obj)} {fi sq sc bg r : Int} {t1 t2 t3 t4 : Tok} (H : Ser sq sc fi bg r) (hsc : sc ≠ 0) (ssq : Bt 2000 sq) (ssc : Bt 1000 sc) :
    Cut w 140 1 news [.int fi t1, .int sq t2, .int sc t3, .int bg t4] (OInt r) := cut_series H.h hsc ssq ssc
def Sq (rad sc sq : Int) : Prop := (rad * rad).fdiv sc = sq
set_option maxHeartbeats 4000000 in
theorem cut_near {w : World} {news : List (Addr × Obj)} {num sc bt : Int} {t1 t2 t3 : Tok} (hsc : sc ≠ 0) (hbt : bt ≠ 0) (s1 : Bt 1000 num) (s2 : Bt 400 sc) (s3 : Bt 400 bt) : Cut w 154 3 news [.int num t1, .int sc t2, .int bt t3] (OPair (fracT (rdV num sc bt) bt) (fracB (rdV num sc bt) bt)) := by
  w_top off
  unfold Cut
  k_fill
  k_with_none
  k_with "ktr_room" => (first | exact dp_le (by with_reducible assumption) (by decide) | exact dp_le0 (by with_reducible assumption) (by decide) | exact Nat.lt_of_le_of_lt (Nat.le_add_right _ _) (by with_reducible assumption) | fail "room")
  k_with "ktr_units" => (first | exact un_le (by with_reducible assumption) (by decide) | exact un_le0 (by with_reducible assumption) (by decide) | exact Nat.lt_of_le_of_lt (Nat.le_add_right _ _) (by with_reducible assumption) | fail "units")
  k_with "k_slotset" => (intro p hp; repeat (first | exact hp | refine List.mem_cons_of_mem _ ?_))
  k_with "k_put" => (first | with_reducible rfl | omega | assumption | (simp only [Int.mul_one, Int.one_mul]; done) | (simp only [signV]; (repeat' split) <;> first | with_reducible rfl | omega) | k_extra "EQ")
  k_with "bits_by_make" => (first | with_reducible assumption | ((with_reducible apply bits_fracT); bits_by_make) | ((with_reducible apply bits_fracB); bits_by_make) | exact PySem.intBits_le_64 (by decide) (by decide) | exact PySem.intBits_le_64 (by omega) (by omega) | exact bits_lit200 (by decide +kernel) | fail "bits")
  k_with "k_slotget" => (first | exact List.mem_cons_self | with_reducible assumption | (refine' List.mem_cons_of_mem _ ?_; k_slotget) | fail "mem")
  k_with "subscriptTail Name Constant ref int" => (k_here; k_dflt (refine' item_tupleT (News.isTup ?zqn ?zqm) ?zqa ?zqb ?zqc ?zqd ?_; (case zqn => k_asm); (case zqm => k_slotget); (case zqa => decide); (case zqb => decide); (case zqc => exact rfl); (case zqd => exact rfl); k_whole))
  k_with "execs cons" => (with_reducible refine gen_toks3 (fun tk' => ?_))
  k_with "execs nil" => (with_reducible refine gen_toks3 (fun tk' => ?_))
  k_with "eval Name" => (k_here; k_dflt (first   | (refine' ld ?zqk1 ?zqk2 ?_; (case zqk1 => k_asm); (case zqk2 => exact rfl); k_whole)   | (refine' name_K ?zqkF ?zqk1 ?zqk2 ?zqk3 ?_; (case zqkF => k_asm); (case zqk1 => k_asm); (case zqk2 => k_asm); (case zqk3 => k_is); k_whole)))
  k_with "k_get" => (first | with_reducible assumption | k_slotget | exact Nat.le_trans (by with_reducible assumption) (by decide) | k_extra "P" | decide | omega | (refine intBits_le_64 ?_ ?_ <;> omega) | (exact Nat.le_trans (by bits_by_make) (by decide)) | assumption)
  k_with "ktd_handed" => (first | with_reducible assumption | decide | omega | k_extra "NZ")
  k_with "binaryOp FloorDiv int int" => (k_here; (with_reducible refine floordiv_int ?zqkbe ?_ (Or.inl (PyProof.noPylong_of_log2 ?zqkbp))); (case zqkbe => ktd_handed); (case zqkbp => exact log_of_bits (by bits_by_make) (by decide)))
  k_with "binaryOp Mod int int" => (k_here; (with_reducible refine mod_int' ?zqkbe ?_); (case zqkbe => ktd_handed))
  k_with "binaryOp Mod int int" => (with_reducible refine' mod_int_v ?zqhb ?zqe ?_; (case zqe => with_reducible assumption); (case zqhb => ktd_handed))
  k_with "binaryOp Mod int int" => (k_extra "MYMOD")
  k_with "binaryOp Mult int int" => (k_here; k_dflt (refine' PyProof.Rows.mul_int ?_ ?zqhm; (case zqhm => exact PyProof.Rows.mulOk_of_bits (by bits_by_make) (by bits_by_make) (by decide))))
  k_with "binaryOp Pow int int" => (with_reducible refine' pow2_int ?zqh ?_; (case zqh => first | with_reducible assumption | omega))
  k_with "exec Raise some none" => (exfalso; first | contradiction | omega)
  k_with "END" => (first   | (refine' ret_int ?zqh ?zqe ?zqF ?zqN ?zqsub; (case zqh => assumption); (case zqF => k_asm); (case zqN => k_asm); (case zqsub => k_slotset); (case zqe => k_put))   | (refine' ret_bool ?zqh ?zqe ?zqF ?zqN ?zqsub; (case zqh => assumption); (case zqF => k_asm); (case zqN => k_asm); (case zqsub => k_slotset); (case zqe => k_put))   | (refine' ret_pair ?zqh ?zqhm ?zqex ?zqey ?zqF ?zqN ?zqsub; (case zqh => assumption); (case zqF => k_asm); (case zqN => k_asm); (case zqsub => k_slotset); (case zqhm => k_slotget); (case zqex => k_put); (case zqey => k_put))   | (refine' ret_turn ?zqh ?zqhb ?zqhc ?zqhd ?zqe0 ?zqe1 ?zqe2 ?zqe3 ?zqF ?zqN ?zqsub; (case zqh => assumption); (case zqF => k_asm); (case zqN => k_asm); (case zqsub => k_slotset); (case zqhb => k_slotget); (case zqhc => k_slotget); (case zqhd => k_slotget); (case zqe0 => k_put); (case zqe1 => k_put); (case zqe2 => k_put); (case zqe3 => k_put)))
  k_with "exec While Compare cons nil" => (k_extra "MYWHILE")
  k_with "KswEnd" => (k_extra "MYTURN")
  k_with "x_auto" => (first | with_reducible assumption | omega | k_extra "FACT" | fail "fact")
  k_with "ite" => (first   | (with_reducible refine' ine_t ?zqh ?_; (case zqh => x_auto))   | (with_reducible refine' ine_f ?zqh ?_; (case zqh => x_auto))   | (with_reducible refine' ieq_t ?zqh ?_; (case zqh => x_auto))   | (with_reducible refine' ieq_f ?zqh ?_; (case zqh => x_auto))   | (with_reducible refine' dec_t ?zqh ?_; (case zqh => x_auto))   | (with_reducible refine' dec_f ?zqh ?_; (case zqh => x_auto)))
  k_with "eval BinOp" => (k_here; k_dflt (refine' IV.use ?zqd ?_; (case zqd => tb_rel); k_whole); intro t' tk')
  k_with "eval Tuple" => (k_here; k_dflt (refine' tup2 ?zqda ?zqdb ?zqF ?zqN ?_; (case zqda => tb_rel); (case zqdb => tb_rel); (case zqF => k_asm); (case zqN => k_asm); k_whole); intro D' t' u' h' tk' F' N' l1; (try k_lt l1); (try k_sweep))
  k_with "eval UnaryOp" => (k_here; k_dflt (refine' IV.use ?zqd ?_; (case zqd => tb_rel); k_whole); intro t' tk')
  k_with "eval Subscript" => (k_here; k_dflt (refine' IV.use ?zqd ?_; (case zqd => tb_rel); k_whole); intro t' tk')
  k_with "exec If" => (k_here; k_dflt (first | (refine' if_f ?zqd ?_; (case zqd => tb_rel); k_whole) | (refine' if_t ?zqd ?_; (case zqd => tb_rel); k_whole)); intro tk')
  k_with "OFFA" => (first | (refine' OffA.lt ?_; assumption) | (refine' OffA.cons ?zqc ?zqd; (case zqc => first | exact Or.inr (by k_cls) | exact Or.inl (by k_ne)); (case zqd => walk_at "OFFA")))
  k_with "WO" => (first | (refine' WO.here ?_; walk_at "OFFA") | (refine' WO.cons ?zqc ?zqd; (case zqc => first | exact Or.inr (by k_cls) | exact Or.inl (by k_ne)); (case zqd => walk_at "WO")))
  k_with "UnrEnd" => (refine' unr_end ?zqF ?zqN ?zqW ?_; (case zqF => k_asm); (case zqN => k_asm); (case zqW => walk_at "WO"))
  k_with "ENTER" => (refine' code_def ?zqk1 ?zqk2 ?zqk3 ?zqk4 ?zqk5 ?zqkA ?zqkF ?zqkK ?zqk6 ?zqk7 ?zqk8 ?zqk9 ?zqkB ?_ ?zqc2 ?zqc3 ?zqc4 ?zqc5; (case zqkA => exact rfl); (case zqkF => exact rfl); (case zqkK => assumption); (case zqk1 => k_asm); (case zqk2 => k_asm); (case zqk3 => k_asm); (case zqk4 => k_asm); (case zqk5 => k_asm); (case zqk6 => k_is); (case zqk7 => k_is); (case zqk8 => ktr_room); (case zqk9 => first | exact BindsTo.of_eq rfl | exact binds_K (by k_in) rfl (by k_is) rfl rfl rfl); (case zqc5 => decide); (case zqkB => exact locs rfl); (case zqc2 => exact rfl); (case zqc3 => exact rfl); (case zqc4 => exact rfl); k_whole; intro g' L' h' FG' F' N' B' X' T'; (try dsimp only); (try k_fold))
  k_with "call ref" => (k_here; k_dflt (refine' use_pair (cut_fraction ?zqp0 ?zqp1) ?zqk1 ?zqk2 ?zqk3 ?zqk4 ?zqk5 ?zqkK ?zqkd ?zqku ?_; (case zqk1 => k_asm); (case zqk2 => k_asm); (case zqk3 => k_asm); (case zqk4 => k_asm); (case zqk5 => k_asm); (case zqkK => first | exact rfl | assumption); (case zqp0 => k_get); (case zqp1 => k_get); (case zqkd => ktr_room); (case zqku => ktr_units); k_whole; intro a' t' u' h' tk' F' N'; (try k_sweep); (try dsimp only); (try k_fold)))
  k_with "call ref" => (k_here; k_dflt (refine' use_int (cut_rounded ?zqp0 ?zqp1 ?zqp2) ?zqk1 ?zqk2 ?zqk3 ?zqk4 ?zqk5 ?zqkK ?zqkd ?zqku ?_; (case zqk1 => k_asm); (case zqk2 => k_asm); (case zqk3 => k_asm); (case zqk4 => k_asm); (case zqk5 => k_asm); (case zqkK => first | exact rfl | assumption); (case zqp0 => k_get); (case zqp1 => k_get); (case zqp2 => k_get); (case zqkd => ktr_room); (case zqku => ktr_units); k_whole; intro t' h' tk' F' N'; (try k_sweep); (try dsimp only); (try k_fold)))
  intro mean mg mb dp un gd cn cs c ccd cl outer A₀ base h₀ L m s Q E B F X N T hk hd hu hret
  have hq := fracB_ne (a := num * bt) hsc
  k_with "EQ" => (simp only [rdV]; done)
  walk_at "WALK"
set_option maxHeartbeats 4000000 in
theorem cut_rad {w : World} {news : List (Addr × Obj)} {pa : Addr} {a0 a1 : Int} {ta ua : Tok} (ha : (pa, pairObj (.int a0 ta) (.int a1 ua)) ∈ news) {sc r : Int} {t1 : Tok} (e : (a0 * 314159265358979323846264338327950288419716939937510 * sc).fdiv (180 * a1 * 100000000000000000000000000000000000000000000000000) = r) (hd : 0 < a1) (s1 : Bt 200 a0) (s2 : Bt 200 a1) (s3 : Bt 400 sc) : Cut w 133 1 news [.ref pa, .int sc t1] (OInt r) := by
  unfold Cut
  k_fill
  k_with_none
  k_with "ktr_room" => (first | exact dp_le (by with_reducible assumption) (by decide) | exact dp_le0 (by with_reducible assumption) (by decide) | exact Nat.lt_of_le_of_lt (Nat.le_add_right _ _) (by with_reducible assumption) | fail "room")
  k_with "ktr_units" => (first | exact un_le (by with_reducible assumption) (by decide) | exact un_le0 (by with_reducible assumption) (by decide) | exact Nat.lt_of_le_of_lt (Nat.le_add_right _ _) (by with_reducible assumption) | fail "units")
  k_with "k_slotset" => (intro p hp; repeat (first | exact hp | refine List.mem_cons_of_mem _ ?_))
  k_with "k_put" => (first | with_reducible rfl | omega | assumption | (simp only [Int.mul_one, Int.one_mul]; done) | (simp only [signV]; (repeat' split) <;> first | with_reducible rfl | omega) | k_extra "EQ")
  k_with "bits_by_make" => (first | with_reducible assumption | ((with_reducible apply bits_fracT); bits_by_make) | ((with_reducible apply bits_fracB); bits_by_make) | exact PySem.intBits_le_64 (by decide) (by decide) | exact PySem.intBits_le_64 (by omega) (by omega) | exact bits_lit200 (by decide +kernel) | fail "bits")
  k_with "k_slotget" => (first | exact List.mem_cons_self | with_reducible assumption | (refine' List.mem_cons_of_mem _ ?_; k_slotget) | fail "mem")
  k_with "subscriptTail Name Constant ref int" => (k_here; k_dflt (refine' item_tupleT (News.isTup ?zqn ?zqm) ?zqa ?zqb ?zqc ?zqd ?_; (case zqn => k_asm); (case zqm => k_slotget); (case zqa => decide); (case zqb => decide); (case zqc => exact rfl); (case zqd => exact rfl); k_whole))
  k_with "execs cons" => (with_reducible refine gen_toks3 (fun tk' => ?_))
  k_with "execs nil" => (with_reducible refine gen_toks3 (fun tk' => ?_))
  k_with "eval Name" => (k_here; k_dflt (first   | (refine' ld ?zqk1 ?zqk2 ?_; (case zqk1 => k_asm); (case zqk2 => exact rfl); k_whole)   | (refine' name_K ?zqkF ?zqk1 ?zqk2 ?zqk3 ?_; (case zqkF => k_asm); (case zqk1 => k_asm); (case zqk2 => k_asm); (case zqk3 => k_is); k_whole)))
  k_with "k_get" => (first | with_reducible assumption | k_slotget | exact Nat.le_trans (by with_reducible assumption) (by decide) | k_extra "P" | decide | omega | (refine intBits_le_64 ?_ ?_ <;> omega) | (exact Nat.le_trans (by bits_by_make) (by decide)) | assumption)
  k_with "ktd_handed" => (first | with_reducible assumption | decide | omega | k_extra "NZ")
  k_with "binaryOp FloorDiv int int" => (k_here; (with_reducible refine floordiv_int ?zqkbe ?_ (Or.inl (PyProof.noPylong_of_log2 ?zqkbp))); (case zqkbe => ktd_handed); (case zqkbp => exact log_of_bits (by bits_by_make) (by decide)))
  k_with "binaryOp Mod int int" => (k_here; (with_reducible refine mod_int' ?zqkbe ?_); (case zqkbe => ktd_handed))
  k_with "binaryOp Mod int int" => (with_reducible refine' mod_int_v ?zqhb ?zqe ?_; (case zqe => with_reducible assumption); (case zqhb => ktd_handed))
  k_with "binaryOp Mod int int" => (k_extra "MYMOD")
  k_with "binaryOp Mult int int" => (k_here; k_dflt (refine' PyProof.Rows.mul_int ?_ ?zqhm; (case zqhm => exact PyProof.Rows.mulOk_of_bits (by bits_by_make) (by bits_by_make) (by decide))))
  k_with "binaryOp Pow int int" => (with_reducible refine' pow2_int ?zqh ?_; (case zqh => first | with_reducible assumption | omega))
  k_with "exec Raise some none" => (exfalso; first | contradiction | omega)
  k_with "END" => (first   | (refine' ret_int ?zqh ?zqe ?zqF ?zqN ?zqsub; (case zqh => assumption); (case zqF => k_asm); (case zqN => k_asm); (case zqsub => k_slotset); (case zqe => k_put))   | (refine' ret_bool ?zqh ?zqe ?zqF ?zqN ?zqsub; (case zqh => assumption); (case zqF => k_asm); (case zqN => k_asm); (case zqsub => k_slotset); (case zqe => k_put))   | (refine' ret_pair ?zqh ?zqhm ?zqex ?zqey ?zqF ?zqN ?zqsub; (case zqh => assumption); (case zqF => k_asm); (case zqN => k_asm); (case zqsub => k_slotset); (case zqhm => k_slotget); (case zqex => k_put); (case zqey => k_put))   | (refine' ret_turn ?zqh ?zqhb ?zqhc ?zqhd ?zqe0 ?zqe1 ?zqe2 ?zqe3 ?zqF ?zqN ?zqsub; (case zqh => assumption); (case zqF => k_asm); (case zqN => k_asm); (case zqsub => k_slotset); (case zqhb => k_slotget); (case zqhc => k_slotget); (case zqhd => k_slotget); (case zqe0 => k_put); (case zqe1 => k_put); (case zqe2 => k_put); (case zqe3 => k_put)))
  k_with "exec While Compare cons nil" => (k_extra "MYWHILE")
  k_with "KswEnd" => (k_extra "MYTURN")
  k_with "x_auto" => (first | with_reducible assumption | omega | k_extra "FACT" | fail "fact")
  k_with "ite" => (first   | (with_reducible refine' ine_t ?zqh ?_; (case zqh => x_auto))   | (with_reducible refine' ine_f ?zqh ?_; (case zqh => x_auto))   | (with_reducible refine' ieq_t ?zqh ?_; (case zqh => x_auto))   | (with_reducible refine' ieq_f ?zqh ?_; (case zqh => x_auto))   | (with_reducible refine' dec_t ?zqh ?_; (case zqh => x_auto))   | (with_reducible refine' dec_f ?zqh ?_; (case zqh => x_auto)))
  k_with "eval BinOp" => (k_here; k_dflt (refine' IV.use ?zqd ?_; (case zqd => tb_rel); k_whole); intro t' tk')
  k_with "eval Tuple" => (k_here; k_dflt (refine' tup2 ?zqda ?zqdb ?zqF ?zqN ?_; (case zqda => tb_rel); (case zqdb => tb_rel); (case zqF => k_asm); (case zqN => k_asm); k_whole); intro D' t' u' h' tk' F' N' l1; (try k_lt l1); (try k_sweep))
  k_with "eval UnaryOp" => (k_here; k_dflt (refine' IV.use ?zqd ?_; (case zqd => tb_rel); k_whole); intro t' tk')
  k_with "eval Subscript" => (k_here; k_dflt (refine' IV.use ?zqd ?_; (case zqd => tb_rel); k_whole); intro t' tk')
  k_with "exec If" => (k_here; k_dflt (first | (refine' if_f ?zqd ?_; (case zqd => tb_rel); k_whole) | (refine' if_t ?zqd ?_; (case zqd => tb_rel); k_whole)); intro tk')
  k_with "OFFA" => (first | (refine' OffA.lt ?_; assumption) | (refine' OffA.cons ?zqc ?zqd; (case zqc => first | exact Or.inr (by k_cls) | exact Or.inl (by k_ne)); (case zqd => walk_at "OFFA")))
  k_with "WO" => (first | (refine' WO.here ?_; walk_at "OFFA") | (refine' WO.cons ?zqc ?zqd; (case zqc => first | exact Or.inr (by k_cls) | exact Or.inl (by k_ne)); (case zqd => walk_at "WO")))
  k_with "UnrEnd" => (refine' unr_end ?zqF ?zqN ?zqW ?_; (case zqF => k_asm); (case zqN => k_asm); (case zqW => walk_at "WO"))
  k_with "ENTER" => (refine' code_def ?zqk1 ?zqk2 ?zqk3 ?zqk4 ?zqk5 ?zqkA ?zqkF ?zqkK ?zqk6 ?zqk7 ?zqk8 ?zqk9 ?zqkB ?_ ?zqc2 ?zqc3 ?zqc4 ?zqc5; (case zqkA => exact rfl); (case zqkF => exact rfl); (case zqkK => assumption); (case zqk1 => k_asm); (case zqk2 => k_asm); (case zqk3 => k_asm); (case zqk4 => k_asm); (case zqk5 => k_asm); (case zqk6 => k_is); (case zqk7 => k_is); (case zqk8 => ktr_room); (case zqk9 => first | exact BindsTo.of_eq rfl | exact binds_K (by k_in) rfl (by k_is) rfl rfl rfl); (case zqc5 => decide); (case zqkB => exact locs rfl); (case zqc2 => exact rfl); (case zqc3 => exact rfl); (case zqc4 => exact rfl); k_whole; intro g' L' h' FG' F' N' B' X' T'; (try dsimp only); (try k_fold))
  k_with "call ref" => (k_here; k_dflt (refine' use_pair (cut_fraction ?zqp0 ?zqp1) ?zqk1 ?zqk2 ?zqk3 ?zqk4 ?zqk5 ?zqkK ?zqkd ?zqku ?_; (case zqk1 => k_asm); (case zqk2 => k_asm); (case zqk3 => k_asm); (case zqk4 => k_asm); (case zqk5 => k_asm); (case zqkK => first | exact rfl | assumption); (case zqp0 => k_get); (case zqp1 => k_get); (case zqkd => ktr_room); (case zqku => ktr_units); k_whole; intro a' t' u' h' tk' F' N'; (try k_sweep); (try dsimp only); (try k_fold)))
  k_with "call ref" => (k_here; k_dflt (refine' use_int (cut_rounded ?zqp0 ?zqp1 ?zqp2) ?zqk1 ?zqk2 ?zqk3 ?zqk4 ?zqk5 ?zqkK ?zqkd ?zqku ?_; (case zqk1 => k_asm); (case zqk2 => k_asm); (case zqk3 => k_asm); (case zqk4 => k_asm); (case zqk5 => k_asm); (case zqkK => first | exact rfl | assumption); (case zqp0 => k_get); (case zqp1 => k_get); (case zqp2 => k_get); (case zqkd => ktr_room); (case zqku => ktr_units); k_whole; intro t' h' tk' F' N'; (try k_sweep); (try dsimp only); (try k_fold)))
  intro mean mg mb dp un gd cn cs c ccd cl outer A₀ base h₀ L m s Q E B F X N T hk hd hu hret
  walk_at "WALK"
set_option maxHeartbeats 4000000 in
theorem cut_small {w : World} {news : List (Addr × Obj)} {pa : Addr} {a0 a1 : Int} {ta ua : Tok} (ha : (pa, pairObj (.int a0 ta) (.int a1 ua)) ∈ news) {bt c0 c1 s0 s1 : Int} {t1 : Tok} (H : stR a0 a1 bt = some (c0, c1, s0, s1)) (hd : 0 < a1) (hbt : 0 < bt) (z1 : Bt 200 a0) (z2 : Bt 200 a1) (z3 : Bt 200 bt) : Cut w 147 4 news [.ref pa, .int bt t1] (OTurn c0 c1 s0 s1) := by
  unfold Cut
  k_fill
  k_with_none
  k_with "ktr_room" => (first | exact dp_le (by with_reducible assumption) (by decide) | exact dp_le0 (by with_reducible assumption) (by decide) | exact Nat.lt_of_le_of_lt (Nat.le_add_right _ _) (by with_reducible assumption) | fail "room")
  k_with "ktr_units" => (first | exact un_le (by with_reducible assumption) (by decide) | exact un_le0 (by with_reducible assumption) (by decide) | exact Nat.lt_of_le_of_lt (Nat.le_add_right _ _) (by with_reducible assumption) | fail "units")
  k_with "k_slotset" => (intro p hp; repeat (first | exact hp | refine List.mem_cons_of_mem _ ?_))
  k_with "k_put" => (first | with_reducible rfl | omega | assumption | (simp only [Int.mul_one, Int.one_mul]; done) | (simp only [signV]; (repeat' split) <;> first | with_reducible rfl | omega) | k_extra "EQ")
  k_with "bits_by_make" => (first | with_reducible assumption | ((with_reducible apply bits_fracT); bits_by_make) | ((with_reducible apply bits_fracB); bits_by_make) | exact PySem.intBits_le_64 (by decide) (by decide) | exact PySem.intBits_le_64 (by omega) (by omega) | exact bits_lit200 (by decide +kernel) | fail "bits")
  k_with "k_slotget" => (first | exact List.mem_cons_self | with_reducible assumption | (refine' List.mem_cons_of_mem _ ?_; k_slotget) | fail "mem")
  k_with "subscriptTail Name Constant ref int" => (k_here; k_dflt (refine' item_tupleT (News.isTup ?zqn ?zqm) ?zqa ?zqb ?zqc ?zqd ?_; (case zqn => k_asm); (case zqm => k_slotget); (case zqa => decide); (case zqb => decide); (case zqc => exact rfl); (case zqd => exact rfl); k_whole))
  k_with "execs cons" => (with_reducible refine gen_toks3 (fun tk' => ?_))
  k_with "execs nil" => (with_reducible refine gen_toks3 (fun tk' => ?_))
  k_with "eval Name" => (k_here; k_dflt (first   | (refine' ld ?zqk1 ?zqk2 ?_; (case zqk1 => k_asm); (case zqk2 => exact rfl); k_whole)   | (refine' name_K ?zqkF ?zqk1 ?zqk2 ?zqk3 ?_; (case zqkF => k_asm); (case zqk1 => k_asm); (case zqk2 => k_asm); (case zqk3 => k_is); k_whole)))
  k_with "k_get" => (first | with_reducible assumption | k_slotget | exact Nat.le_trans (by with_reducible assumption) (by decide) | k_extra "P" | decide | omega | (refine intBits_le_64 ?_ ?_ <;> omega) | (exact Nat.le_trans (by bits_by_make) (by decide)) | assumption)
  k_with "ktd_handed" => (first | with_reducible assumption | decide | omega | k_extra "NZ")
  k_with "binaryOp FloorDiv int int" => (k_here; (with_reducible refine floordiv_int ?zqkbe ?_ (Or.inl (PyProof.noPylong_of_log2 ?zqkbp))); (case zqkbe => ktd_handed); (case zqkbp => exact log_of_bits (by bits_by_make) (by decide)))
  k_with "binaryOp Mod int int" => (k_here; (with_reducible refine mod_int' ?zqkbe ?_); (case zqkbe => ktd_handed))
  k_with "binaryOp Mod int int" => (with_reducible refine' mod_int_v ?zqhb ?zqe ?_; (case zqe => with_reducible assumption); (case zqhb => ktd_handed))
  k_with "binaryOp Mod int int" => (k_extra "MYMOD")
  k_with "binaryOp Mult int int" => (k_here; k_dflt (refine' PyProof.Rows.mul_int ?_ ?zqhm; (case zqhm => exact PyProof.Rows.mulOk_of_bits (by bits_by_make) (by bits_by_make) (by decide))))
  k_with "binaryOp Pow int int" => (with_reducible refine' pow2_int ?zqh ?_; (case zqh => first | with_reducible assumption | omega))
  k_with "exec Raise some none" => (exfalso; first | contradiction | omega)
  k_with "END" => (first   | (refine' ret_int ?zqh ?zqe ?zqF ?zqN ?zqsub; (case zqh => assumption); (case zqF => k_asm); (case zqN => k_asm); (case zqsub => k_slotset); (case zqe => k_put))   | (refine' ret_bool ?zqh ?zqe ?zqF ?zqN ?zqsub; (case zqh => assumption); (case zqF => k_asm); (case zqN => k_asm); (case zqsub => k_slotset); (case zqe => k_put))   | (refine' ret_pair ?zqh ?zqhm ?zqex ?zqey ?zqF ?zqN ?zqsub; (case zqh => assumption); (case zqF => k_asm); (case zqN => k_asm); (case zqsub => k_slotset); (case zqhm => k_slotget); (case zqex => k_put); (case zqey => k_put))   | (refine' ret_turn ?zqh ?zqhb ?zqhc ?zqhd ?zqe0 ?zqe1 ?zqe2 ?zqe3 ?zqF ?zqN ?zqsub; (case zqh => assumption); (case zqF => k_asm); (case zqN => k_asm); (case zqsub => k_slotset); (case zqhb => k_slotget); (case zqhc => k_slotget); (case zqhd => k_slotget); (case zqe0 => k_put); (case zqe1 => k_put); (case zqe2 => k_put); (case zqe3 => k_put)))
  k_with "exec While Compare cons nil" => (k_extra "MYWHILE")
  k_with "KswEnd" => (k_extra "MYTURN")
  k_with "x_auto" => (first | with_reducible assumption | omega | k_extra "FACT" | fail "fact")
  k_with "ite" => (first   | (with_reducible refine' ine_t ?zqh ?_; (case zqh => x_auto))   | (with_reducible refine' ine_f ?zqh ?_; (case zqh => x_auto))   | (with_reducible refine' ieq_t ?zqh ?_; (case zqh => x_auto))   | (with_reducible refine' ieq_f ?zqh ?_; (case zqh => x_auto))   | (with_reducible refine' dec_t ?zqh ?_; (case zqh => x_auto))   | (with_reducible refine' dec_f ?zqh ?_; (case zqh => x_auto)))
  k_with "eval BinOp" => (k_here; k_dflt (refine' IV.use ?zqd ?_; (case zqd => tb_rel); k_whole); intro t' tk')
  k_with "eval Tuple" => (k_here; k_dflt (refine' tup2 ?zqda ?zqdb ?zqF ?zqN ?_; (case zqda => tb_rel); (case zqdb => tb_rel); (case zqF => k_asm); (case zqN => k_asm); k_whole); intro D' t' u' h' tk' F' N' l1; (try k_lt l1); (try k_sweep))
  k_with "eval UnaryOp" => (k_here; k_dflt (refine' IV.use ?zqd ?_; (case zqd => tb_rel); k_whole); intro t' tk')
  k_with "eval Subscript" => (k_here; k_dflt (refine' IV.use ?zqd ?_; (case zqd => tb_rel); k_whole); intro t' tk')
  k_with "exec If" => (k_here; k_dflt (first | (refine' if_f ?zqd ?_; (case zqd => tb_rel); k_whole) | (refine' if_t ?zqd ?_; (case zqd => tb_rel); k_whole)); intro tk')
  k_with "OFFA" => (first | (refine' OffA.lt ?_; assumption) | (refine' OffA.cons ?zqc ?zqd; (case zqc => first | exact Or.inr (by k_cls) | exact Or.inl (by k_ne)); (case zqd => walk_at "OFFA")))
  k_with "WO" => (first | (refine' WO.here ?_; walk_at "OFFA") | (refine' WO.cons ?zqc ?zqd; (case zqc => first | exact Or.inr (by k_cls) | exact Or.inl (by k_ne)); (case zqd => walk_at "WO")))
  k_with "UnrEnd" => (refine' unr_end ?zqF ?zqN ?zqW ?_; (case zqF => k_asm); (case zqN => k_asm); (case zqW => walk_at "WO"))
  k_with "ENTER" => (refine' code_def ?zqk1 ?zqk2 ?zqk3 ?zqk4 ?zqk5 ?zqkA ?zqkF ?zqkK ?zqk6 ?zqk7 ?zqk8 ?zqk9 ?zqkB ?_ ?zqc2 ?zqc3 ?zqc4 ?zqc5; (case zqkA => exact rfl); (case zqkF => exact rfl); (case zqkK => assumption); (case zqk1 => k_asm); (case zqk2 => k_asm); (case zqk3 => k_asm); (case zqk4 => k_asm); (case zqk5 => k_asm); (case zqk6 => k_is); (case zqk7 => k_is); (case zqk8 => ktr_room); (case zqk9 => first | exact BindsTo.of_eq rfl | exact binds_K (by k_in) rfl (by k_is) rfl rfl rfl); (case zqc5 => decide); (case zqkB => exact locs rfl); (case zqc2 => exact rfl); (case zqc3 => exact rfl); (case zqc4 => exact rfl); k_whole; intro g' L' h' FG' F' N' B' X' T'; (try dsimp only); (try k_fold))
  k_with "call ref" => (k_here; k_dflt (refine' use_pair (cut_fraction ?zqp0 ?zqp1) ?zqk1 ?zqk2 ?zqk3 ?zqk4 ?zqk5 ?zqkK ?zqkd ?zqku ?_; (case zqk1 => k_asm); (case zqk2 => k_asm); (case zqk3 => k_asm); (case zqk4 => k_asm); (case zqk5 => k_asm); (case zqkK => first | exact rfl | assumption); (case zqp0 => k_get); (case zqp1 => k_get); (case zqkd => ktr_room); (case zqku => ktr_units); k_whole; intro a' t' u' h' tk' F' N'; (try k_sweep); (try dsimp only); (try k_fold)))
  k_with "call ref" => (k_here; k_dflt (refine' use_int (cut_rounded ?zqp0 ?zqp1 ?zqp2) ?zqk1 ?zqk2 ?zqk3 ?zqk4 ?zqk5 ?zqkK ?zqkd ?zqku ?_; (case zqk1 => k_asm); (case zqk2 => k_asm); (case zqk3 => k_asm); (case zqk4 => k_asm); (case zqk5 => k_asm); (case zqkK => first | exact rfl | assumption); (case zqp0 => k_get); (case zqp1 => k_get); (case zqp2 => k_get); (case zqkd => ktr_room); (case zqku => ktr_units); k_whole; intro t' h' tk' F' N'; (try k_sweep); (try dsimp only); (try k_fold)))
  k_with "call ref" => (k_here; k_dflt (refine' use_int (cut_rad ?zqp0 ?zqp1 ?zqp2 ?zqp3 ?zqp4 ?zqp5) ?zqk1 ?zqk2 ?zqk3 ?zqk4 ?zqk5 ?zqkK ?zqkd ?zqku ?_; (case zqk1 => k_asm); (case zqk2 => k_asm); (case zqk3 => k_asm); (case zqk4 => k_asm); (case zqk5 => k_asm); (case zqkK => first | exact rfl | assumption); (case zqp0 => k_get); (case zqp1 => k_get); (case zqp2 => k_get); (case zqp3 => k_get); (case zqp4 => k_get); (case zqp5 => k_get); (case zqkd => ktr_room); (case zqku => ktr_units); k_whole; intro t' h' tk' F' N'; (try k_sweep); (try dsimp only); (try k_fold)))
  k_with "call ref" => (k_here; k_dflt (refine' use_int (cut_serS ?zqp0 ?zqp1 ?zqp2 ?zqp3) ?zqk1 ?zqk2 ?zqk3 ?zqk4 ?zqk5 ?zqkK ?zqkd ?zqku ?_; (case zqk1 => k_asm); (case zqk2 => k_asm); (case zqk3 => k_asm); (case zqk4 => k_asm); (case zqk5 => k_asm); (case zqkK => first | exact rfl | assumption); (case zqp0 => k_get); (case zqp1 => k_get); (case zqp2 => k_get); (case zqp3 => k_get); (case zqkd => ktr_room); (case zqku => ktr_units); k_whole; intro t' h' tk' F' N'; (try k_sweep); (try dsimp only); (try k_fold)))
  k_with "call ref" => (k_here; k_dflt (refine' use_pair (cut_near ?zqp0 ?zqp1 ?zqp2 ?zqp3 ?zqp4) ?zqk1 ?zqk2 ?zqk3 ?zqk4 ?zqk5 ?zqkK ?zqkd ?zqku ?_; (case zqk1 => k_asm); (case zqk2 => k_asm); (case zqk3 => k_asm); (case zqk4 => k_asm); (case zqk5 => k_asm); (case zqkK => first | exact rfl | assumption); (case zqp0 => k_get); (case zqp1 => k_get); (case zqp2 => k_get); (case zqp3 => k_get); (case zqp4 => k_get); (case zqkd => ktr_room); (case zqku => ktr_units); k_whole; intro a' t' u' h' tk' F' N'; (try k_sweep); (try dsimp only); (try k_fold)))
  intro mean mg mb dp un gd cn cs c ccd cl outer A₀ base h₀ L m s Q E B F X N T hk hd hu hret
  obtain ⟨rad, sq, C, S, e1, rfl, e3, e4, e5, e6, e7, e8, e9, e10⟩ := stR_inv H
  have b5 := bits_of_lt e5
  have b6 := bits_of_lt e6
  have b1 : Bt 1000 rad := by rw [← e1]; exact Nat.le_trans (by bits_by_make) (by decide)
  clear H
  walk_at "WALK"
end
section
theorem sign_lt {x : Int} (h : x < 0) : signV x = -1 := by unfold signV; rw [if_neg (by omega), if_pos h]
theorem sign_eq {x : Int} (h : x = 0) : signV x = 0 := by unfold signV; rw [if_neg (by omega), if_neg (by omega)]
theorem sign_gt {x : Int} (h : 0 < x) : signV x = 1 := by unfold signV; rw [if_pos (by omega)]
section
variable {w : World} {news : List (Addr × Obj)} {pa : Addr} {a0 a1 : Int} {ta ua : Tok}
theorem cut_compareLt (ha : (pa, pairObj (.int a0 ta) (.int a1 ua)) ∈ news) (h : a0 - 45 * a1 < 0) (sa0 : Bt 1500 a0) (sa1 : Bt 1500 a1) : Cut w 110 2 news [.ref pa, .ref 126] (OInt (-1)) := by
  rw [← sign_lt h]; exact cut_compareR ha sa0 sa1
theorem cut_compareEq (ha : (pa, pairObj (.int a0 ta) (.int a1 ua)) ∈ news) (h : a0 - 45 * a1 = 0) (sa0 : Bt 1500 a0) (sa1 : Bt 1500 a1) : Cut w 110 2 news [.ref pa, .ref 126] (OInt 0) := by
  rw [← sign_eq h]; exact cut_compareR ha sa0 sa1
theorem cut_compareGt (ha : (pa, pairObj (.int a0 ta) (.int a1 ua)) ∈ news) (h : 0 < a0 - 45 * a1) (sa0 : Bt 1500 a0) (sa1 : Bt 1500 a1) : Cut w 110 2 news [.ref pa, .ref 126] (OInt 1) := by
  rw [← sign_gt h]; exact cut_compareR ha sa0 sa1
theorem cut_floorE {v : Int} (ha : (pa, pairObj (.int a0 ta) (.int a1 ua)) ∈ news) (e : a0.fdiv a1 = v) (hz : a1 ≠ 0) (sa1 : Bt 1500 a1) : Cut w 117 1 news [.ref pa] (OInt v) := by
  subst e; exact cut_floor ha hz sa1
theorem cut_minusE {pb : Addr} {b0 b1 : Int} {tb ub : Tok} {x y : Int} (ha : (pa, pairObj (.int a0 ta) (.int a1 ua)) ∈ news) (hb : (pb, pairObj (.int b0 tb) (.int b1 ub)) ∈ news) (e1 : fracT (a0 * b1 - b0 * a1) (a1 * b1) = x) (e2 : fracB (a0 * b1 - b0 * a1) (a1 * b1) = y)
    (sa0 : Bt 1500 a0) (sa1 : Bt 1500 a1) (sb0 : Bt 1500 b0) (sb1 : Bt 1500 b1) (hz : a1 * b1 ≠ 0) : Cut w 68 3 news [.ref pa, .ref pb] (OPair x y) := by
  subst e1; subst e2; exact cut_minus ha hb sa0 sa1 sb0 sb1 hz
end
def qtR (n d bt : Int) : Option (Int × Int × Int × Int) :=
  if n - 45 * d < 0 then stR n d bt
  else if n - 45 * d = 0 then (stR n d bt).map fun x => (x.1, x.2.1, x.1, x.2.1)
  else (stR (fracT (90 * d - n) d) (fracB (90 * d - n) d) bt).map fun x => (x.2.2.1, x.2.2.2, x.1, x.2.1)
theorem map_inv {f : Int × Int × Int × Int → Int × Int × Int × Int} {o : Option (Int × Int × Int × Int)} {r : Int × Int × Int × Int} (h : o.map f = some r) : ∃ a b c d, o = some (a, b, c, d) ∧ f (a, b, c, d) = r := by
  cases o with
  | none => cases h
  | some x => obtain ⟨a, b, c, d⟩ := x; exact ⟨a, b, c, d, rfl, Option.some.inj h⟩
set_option maxHeartbeats 4000000 in
theorem cut_qt_lt {w : World} {news : List (Addr × Obj)} {pa : Addr} {a0 a1 : Int} {ta ua : Tok} (ha : (pa, pairObj (.int a0 ta) (.int a1 ua)) ∈ news) {bt c0 c1 s0 s1 : Int} {t1 : Tok} (hs : a0 - 45 * a1 < 0) (H : stR a0 a1 bt = some (c0, c1, s0, s1)) (hd : 0 < a1) (hbt : 0 < bt) (z1 : Bt 100 a0) (z2 : Bt 100 a1) (z3 : Bt 200 bt) : Cut w 161 5 news [.ref pa, .int bt t1] (OTurn c0 c1 s0 s1) := by
  w_top off
  unfold Cut
  k_fill
  k_with_none
  k_with "ktr_room" => (first | exact dp_le (by with_reducible assumption) (by decide) | exact dp_le0 (by with_reducible assumption) (by decide) | exact Nat.lt_of_le_of_lt (Nat.le_add_right _ _) (by with_reducible assumption) | fail "room")
  k_with "ktr_units" => (first | exact un_le (by with_reducible assumption) (by decide) | exact un_le0 (by with_reducible assumption) (by decide) | exact Nat.lt_of_le_of_lt (Nat.le_add_right _ _) (by with_reducible assumption) | fail "units")
  k_with "k_slotset" => (intro p hp; repeat (first | exact hp | refine List.mem_cons_of_mem _ ?_))
  k_with "k_put" => (first | with_reducible rfl | omega | assumption | (simp only [Int.mul_one, Int.one_mul]; done) | (simp only [signV]; (repeat' split) <;> first | with_reducible rfl | omega) | k_extra "EQ")
  k_with "bits_by_make" => (first | with_reducible assumption | ((with_reducible apply bits_fracT); bits_by_make) | ((with_reducible apply bits_fracB); bits_by_make) | exact PySem.intBits_le_64 (by decide) (by decide) | exact PySem.intBits_le_64 (by omega) (by omega) | exact bits_lit200 (by decide +kernel) | fail "bits")
  k_with "k_slotget" => (first | exact List.mem_cons_self | with_reducible assumption | (refine' List.mem_cons_of_mem _ ?_; k_slotget) | fail "mem")
  k_with "subscriptTail Name Constant ref int" => (k_here; k_dflt (refine' item_tupleT (News.isTup ?zqn ?zqm) ?zqa ?zqb ?zqc ?zqd ?_; (case zqn => k_asm); (case zqm => k_slotget); (case zqa => decide); (case zqb => decide); (case zqc => exact rfl); (case zqd => exact rfl); k_whole))
  k_with "execs cons" => (with_reducible refine gen_toks3 (fun tk' => ?_))
  k_with "execs nil" => (with_reducible refine gen_toks3 (fun tk' => ?_))
  k_with "eval Name" => (k_here; k_dflt (first   | (refine' ld ?zqk1 ?zqk2 ?_; (case zqk1 => k_asm); (case zqk2 => exact rfl); k_whole)   | (refine' name_K ?zqkF ?zqk1 ?zqk2 ?zqk3 ?_; (case zqkF => k_asm); (case zqk1 => k_asm); (case zqk2 => k_asm); (case zqk3 => k_is); k_whole)))
  k_with "k_get" => (first | with_reducible assumption | k_slotget | exact Nat.le_trans (by with_reducible assumption) (by decide) | k_extra "P" | decide | omega | (refine intBits_le_64 ?_ ?_ <;> omega) | (exact Nat.le_trans (by bits_by_make) (by decide)) | assumption)
  k_with "ktd_handed" => (first | with_reducible assumption | decide | omega | k_extra "NZ")
  k_with "binaryOp FloorDiv int int" => (k_here; (with_reducible refine floordiv_int ?zqkbe ?_ (Or.inl (PyProof.noPylong_of_log2 ?zqkbp))); (case zqkbe => ktd_handed); (case zqkbp => exact log_of_bits (by bits_by_make) (by decide)))
  k_with "binaryOp Mod int int" => (k_here; (with_reducible refine mod_int' ?zqkbe ?_); (case zqkbe => ktd_handed))
  k_with "binaryOp Mod int int" => (with_reducible refine' mod_int_v ?zqhb ?zqe ?_; (case zqe => with_reducible assumption); (case zqhb => ktd_handed))
  k_with "binaryOp Mod int int" => (k_extra "MYMOD")
  k_with "binaryOp Mult int int" => (k_here; k_dflt (refine' PyProof.Rows.mul_int ?_ ?zqhm; (case zqhm => exact PyProof.Rows.mulOk_of_bits (by bits_by_make) (by bits_by_make) (by decide))))
  k_with "binaryOp Pow int int" => (with_reducible refine' pow2_int ?zqh ?_; (case zqh => first | with_reducible assumption | omega))
  k_with "exec Raise some none" => (exfalso; first | contradiction | omega)
  k_with "END" => (first   | (refine' ret_int ?zqh ?zqe ?zqF ?zqN ?zqsub; (case zqh => assumption); (case zqF => k_asm); (case zqN => k_asm); (case zqsub => k_slotset); (case zqe => k_put))   | (refine' ret_bool ?zqh ?zqe ?zqF ?zqN ?zqsub; (case zqh => assumption); (case zqF => k_asm); (case zqN => k_asm); (case zqsub => k_slotset); (case zqe => k_put))   | (refine' ret_pair ?zqh ?zqhm ?zqex ?zqey ?zqF ?zqN ?zqsub; (case zqh => assumption); (case zqF => k_asm); (case zqN => k_asm); (case zqsub => k_slotset); (case zqhm => k_slotget); (case zqex => k_put); (case zqey => k_put))   | (refine' ret_turn ?zqh ?zqhb ?zqhc ?zqhd ?zqe0 ?zqe1 ?zqe2 ?zqe3 ?zqF ?zqN ?zqsub; (case zqh => assumption); (case zqF => k_asm); (case zqN => k_asm); (case zqsub => k_slotset); (case zqhb => k_slotget); (case zqhc => k_slotget); (case zqhd => k_slotget); (case zqe0 => k_put); (case zqe1 => k_put); (case zqe2 => k_put); (case zqe3 => k_put)))
  k_with "exec While Compare cons nil" => (k_extra "MYWHILE")
  k_with "KswEnd" => (k_extra "MYTURN")
  k_with "x_auto" => (first | with_reducible assumption | omega | k_extra "FACT" | fail "fact")
  k_with "ite" => (first   | (with_reducible refine' ine_t ?zqh ?_; (case zqh => x_auto))   | (with_reducible refine' ine_f ?zqh ?_; (case zqh => x_auto))   | (with_reducible refine' ieq_t ?zqh ?_; (case zqh => x_auto))   | (with_reducible refine' ieq_f ?zqh ?_; (case zqh => x_auto))   | (with_reducible refine' dec_t ?zqh ?_; (case zqh => x_auto))   | (with_reducible refine' dec_f ?zqh ?_; (case zqh => x_auto)))
  k_with "eval BinOp" => (k_here; k_dflt (refine' IV.use ?zqd ?_; (case zqd => tb_rel); k_whole); intro t' tk')
  k_with "eval Tuple" => (k_here; k_dflt (refine' tup2 ?zqda ?zqdb ?zqF ?zqN ?_; (case zqda => tb_rel); (case zqdb => tb_rel); (case zqF => k_asm); (case zqN => k_asm); k_whole); intro D' t' u' h' tk' F' N' l1; (try k_lt l1); (try k_sweep))
  k_with "eval UnaryOp" => (k_here; k_dflt (refine' IV.use ?zqd ?_; (case zqd => tb_rel); k_whole); intro t' tk')
  k_with "eval Subscript" => (k_here; k_dflt (refine' IV.use ?zqd ?_; (case zqd => tb_rel); k_whole); intro t' tk')
  k_with "exec If" => (k_here; k_dflt (first | (refine' if_f ?zqd ?_; (case zqd => tb_rel); k_whole) | (refine' if_t ?zqd ?_; (case zqd => tb_rel); k_whole)); intro tk')
  k_with "OFFA" => (first | (refine' OffA.lt ?_; assumption) | (refine' OffA.cons ?zqc ?zqd; (case zqc => first | exact Or.inr (by k_cls) | exact Or.inl (by k_ne)); (case zqd => walk_at "OFFA")))
  k_with "WO" => (first | (refine' WO.here ?_; walk_at "OFFA") | (refine' WO.cons ?zqc ?zqd; (case zqc => first | exact Or.inr (by k_cls) | exact Or.inl (by k_ne)); (case zqd => walk_at "WO")))
  k_with "UnrEnd" => (refine' unr_end ?zqF ?zqN ?zqW ?_; (case zqF => k_asm); (case zqN => k_asm); (case zqW => walk_at "WO"))
  k_with "ENTER" => (refine' code_def ?zqk1 ?zqk2 ?zqk3 ?zqk4 ?zqk5 ?zqkA ?zqkF ?zqkK ?zqk6 ?zqk7 ?zqk8 ?zqk9 ?zqkB ?_ ?zqc2 ?zqc3 ?zqc4 ?zqc5; (case zqkA => exact rfl); (case zqkF => exact rfl); (case zqkK => assumption); (case zqk1 => k_asm); (case zqk2 => k_asm); (case zqk3 => k_asm); (case zqk4 => k_asm); (case zqk5 => k_asm); (case zqk6 => k_is); (case zqk7 => k_is); (case zqk8 => ktr_room); (case zqk9 => first | exact BindsTo.of_eq rfl | exact binds_K (by k_in) rfl (by k_is) rfl rfl rfl); (case zqc5 => decide); (case zqkB => exact locs rfl); (case zqc2 => exact rfl); (case zqc3 => exact rfl); (case zqc4 => exact rfl); k_whole; intro g' L' h' FG' F' N' B' X' T'; (try dsimp only); (try k_fold))
  k_with "call ref" => (k_here; k_dflt (refine' use_pair (cut_minusR ?zqp0 ?zqp1 ?zqp2 ?zqp3) ?zqk1 ?zqk2 ?zqk3 ?zqk4 ?zqk5 ?zqkK ?zqkd ?zqku ?_; (case zqk1 => k_asm); (case zqk2 => k_asm); (case zqk3 => k_asm); (case zqk4 => k_asm); (case zqk5 => k_asm); (case zqkK => first | exact rfl | assumption); (case zqp0 => k_get); (case zqp1 => k_get); (case zqp2 => k_get); (case zqp3 => k_get); (case zqkd => ktr_room); (case zqku => ktr_units); k_whole; intro a' t' u' h' tk' F' N'; (try k_sweep); (try dsimp only); (try k_fold)))
  k_with "call ref" => (k_here; k_dflt (refine' use_int (cut_compareLt ?zqp0 ?zqp1 ?zqp2 ?zqp3) ?zqk1 ?zqk2 ?zqk3 ?zqk4 ?zqk5 ?zqkK ?zqkd ?zqku ?_; (case zqk1 => k_asm); (case zqk2 => k_asm); (case zqk3 => k_asm); (case zqk4 => k_asm); (case zqk5 => k_asm); (case zqkK => first | exact rfl | assumption); (case zqp0 => k_get); (case zqp1 => k_get); (case zqp2 => k_get); (case zqp3 => k_get); (case zqkd => ktr_room); (case zqku => ktr_units); k_whole; intro t' h' tk' F' N'; (try k_sweep); (try dsimp only); (try k_fold)))
  k_with "call ref" => (k_here; k_dflt (refine' use_int (cut_compareEq ?zqp0 ?zqp1 ?zqp2 ?zqp3) ?zqk1 ?zqk2 ?zqk3 ?zqk4 ?zqk5 ?zqkK ?zqkd ?zqku ?_; (case zqk1 => k_asm); (case zqk2 => k_asm); (case zqk3 => k_asm); (case zqk4 => k_asm); (case zqk5 => k_asm); (case zqkK => first | exact rfl | assumption); (case zqp0 => k_get); (case zqp1 => k_get); (case zqp2 => k_get); (case zqp3 => k_get); (case zqkd => ktr_room); (case zqku => ktr_units); k_whole; intro t' h' tk' F' N'; (try k_sweep); (try dsimp only); (try k_fold)))
  k_with "call ref" => (k_here; k_dflt (refine' use_int (cut_compareGt ?zqp0 ?zqp1 ?zqp2 ?zqp3) ?zqk1 ?zqk2 ?zqk3 ?zqk4 ?zqk5 ?zqkK ?zqkd ?zqku ?_; (case zqk1 => k_asm); (case zqk2 => k_asm); (case zqk3 => k_asm); (case zqk4 => k_asm); (case zqk5 => k_asm); (case zqkK => first | exact rfl | assumption); (case zqp0 => k_get); (case zqp1 => k_get); (case zqp2 => k_get); (case zqp3 => k_get); (case zqkd => ktr_room); (case zqku => ktr_units); k_whole; intro t' h' tk' F' N'; (try k_sweep); (try dsimp only); (try k_fold)))
  k_with "call ref" => (k_here; k_dflt (refine' use_turn (cut_small ?zqp0 ?zqp1 ?zqp2 ?zqp3 ?zqp4 ?zqp5 ?zqp6) ?zqk1 ?zqk2 ?zqk3 ?zqk4 ?zqk5 ?zqkK ?zqkd ?zqku ?_; (case zqk1 => k_asm); (case zqk2 => k_asm); (case zqk3 => k_asm); (case zqk4 => k_asm); (case zqk5 => k_asm); (case zqkK => first | exact rfl | assumption); (case zqp0 => k_get); (case zqp1 => k_get); (case zqp2 => k_get); (case zqp3 => k_get); (case zqp4 => k_get); (case zqp5 => k_get); (case zqp6 => k_get); (case zqkd => ktr_room); (case zqku => ktr_units); k_whole; intro a' c' d' t' u' v' z' h' tk' F' N'; (try k_sweep); (try dsimp only); (try k_fold)))
  intro mean mg mb dp un gd cn cs c ccd cl outer A₀ base h₀ L m s Q E B F X N T hk hd hu hret
  have y1 : Bt 200 a0 := Nat.le_trans z1 (by decide)
  have y2 : Bt 200 a1 := Nat.le_trans z2 (by decide)
  k_with "P" => exact fracB_gt (by omega)
  walk_at "WALK"
set_option maxHeartbeats 4000000 in
theorem cut_qt_eq {w : World} {news : List (Addr × Obj)} {pa : Addr} {a0 a1 : Int} {ta ua : Tok} (ha : (pa, pairObj (.int a0 ta) (.int a1 ua)) ∈ news) {bt c0 c1 s0 s1 : Int} {t1 : Tok} (hs : a0 - 45 * a1 = 0) (H : stR a0 a1 bt = some (c0, c1, s0, s1)) (hd : 0 < a1) (hbt : 0 < bt) (z1 : Bt 100 a0) (z2 : Bt 100 a1) (z3 : Bt 200 bt) : Cut w 161 5 news [.ref pa, .int bt t1] (OTurn c0 c1 c0 c1) := by
  unfold Cut
  k_fill
  k_with_none
  k_with "ktr_room" => (first | exact dp_le (by with_reducible assumption) (by decide) | exact dp_le0 (by with_reducible assumption) (by decide) | exact Nat.lt_of_le_of_lt (Nat.le_add_right _ _) (by with_reducible assumption) | fail "room")
  k_with "ktr_units" => (first | exact un_le (by with_reducible assumption) (by decide) | exact un_le0 (by with_reducible assumption) (by decide) | exact Nat.lt_of_le_of_lt (Nat.le_add_right _ _) (by with_reducible assumption) | fail "units")
  k_with "k_slotset" => (intro p hp; repeat (first | exact hp | refine List.mem_cons_of_mem _ ?_))
  k_with "k_put" => (first | with_reducible rfl | omega | assumption | (simp only [Int.mul_one, Int.one_mul]; done) | (simp only [signV]; (repeat' split) <;> first | with_reducible rfl | omega) | k_extra "EQ")
  k_with "bits_by_make" => (first | with_reducible assumption | ((with_reducible apply bits_fracT); bits_by_make) | ((with_reducible apply bits_fracB); bits_by_make) | exact PySem.intBits_le_64 (by decide) (by decide) | exact PySem.intBits_le_64 (by omega) (by omega) | exact bits_lit200 (by decide +kernel) | fail "bits")
  k_with "k_slotget" => (first | exact List.mem_cons_self | with_reducible assumption | (refine' List.mem_cons_of_mem _ ?_; k_slotget) | fail "mem")
  k_with "subscriptTail Name Constant ref int" => (k_here; k_dflt (refine' item_tupleT (News.isTup ?zqn ?zqm) ?zqa ?zqb ?zqc ?zqd ?_; (case zqn => k_asm); (case zqm => k_slotget); (case zqa => decide); (case zqb => decide); (case zqc => exact rfl); (case zqd => exact rfl); k_whole))
  k_with "execs cons" => (with_reducible refine gen_toks3 (fun tk' => ?_))
  k_with "execs nil" => (with_reducible refine gen_toks3 (fun tk' => ?_))
  k_with "eval Name" => (k_here; k_dflt (first   | (refine' ld ?zqk1 ?zqk2 ?_; (case zqk1 => k_asm); (case zqk2 => exact rfl); k_whole)   | (refine' name_K ?zqkF ?zqk1 ?zqk2 ?zqk3 ?_; (case zqkF => k_asm); (case zqk1 => k_asm); (case zqk2 => k_asm); (case zqk3 => k_is); k_whole)))
  k_with "k_get" => (first | with_reducible assumption | k_slotget | exact Nat.le_trans (by with_reducible assumption) (by decide) | k_extra "P" | decide | omega | (refine intBits_le_64 ?_ ?_ <;> omega) | (exact Nat.le_trans (by bits_by_make) (by decide)) | assumption)
  k_with "ktd_handed" => (first | with_reducible assumption | decide | omega | k_extra "NZ")
  k_with "binaryOp FloorDiv int int" => (k_here; (with_reducible refine floordiv_int ?zqkbe ?_ (Or.inl (PyProof.noPylong_of_log2 ?zqkbp))); (case zqkbe => ktd_handed); (case zqkbp => exact log_of_bits (by bits_by_make) (by decide)))
  k_with "binaryOp Mod int int" => (k_here; (with_reducible refine mod_int' ?zqkbe ?_); (case zqkbe => ktd_handed))
  k_with "binaryOp Mod int int" => (with_reducible refine' mod_int_v ?zqhb ?zqe ?_; (case zqe => with_reducible assumption); (case zqhb => ktd_handed))
  k_with "binaryOp Mod int int" => (k_extra "MYMOD")
  k_with "binaryOp Mult int int" => (k_here; k_dflt (refine' PyProof.Rows.mul_int ?_ ?zqhm; (case zqhm => exact PyProof.Rows.mulOk_of_bits (by bits_by_make) (by bits_by_make) (by decide))))
  k_with "binaryOp Pow int int" => (with_reducible refine' pow2_int ?zqh ?_; (case zqh => first | with_reducible assumption | omega))
  k_with "exec Raise some none" => (exfalso; first | contradiction | omega)
  k_with "END" => (first   | (refine' ret_int ?zqh ?zqe ?zqF ?zqN ?zqsub; (case zqh => assumption); (case zqF => k_asm); (case zqN => k_asm); (case zqsub => k_slotset); (case zqe => k_put))   | (refine' ret_bool ?zqh ?zqe ?zqF ?zqN ?zqsub; (case zqh => assumption); (case zqF => k_asm); (case zqN => k_asm); (case zqsub => k_slotset); (case zqe => k_put))   | (refine' ret_pair ?zqh ?zqhm ?zqex ?zqey ?zqF ?zqN ?zqsub; (case zqh => assumption); (case zqF => k_asm); (case zqN => k_asm); (case zqsub => k_slotset); (case zqhm => k_slotget); (case zqex => k_put); (case zqey => k_put))   | (refine' ret_turn ?zqh ?zqhb ?zqhc ?zqhd ?zqe0 ?zqe1 ?zqe2 ?zqe3 ?zqF ?zqN ?zqsub; (case zqh => assumption); (case zqF => k_asm); (case zqN => k_asm); (case zqsub => k_slotset); (case zqhb => k_slotget); (case zqhc => k_slotget); (case zqhd => k_slotget); (case zqe0 => k_put); (case zqe1 => k_put); (case zqe2 => k_put); (case zqe3 => k_put)))
  k_with "exec While Compare cons nil" => (k_extra "MYWHILE")
  k_with "KswEnd" => (k_extra "MYTURN")
  k_with "x_auto" => (first | with_reducible assumption | omega | k_extra "FACT" | fail "fact")
  k_with "ite" => (first   | (with_reducible refine' ine_t ?zqh ?_; (case zqh => x_auto))   | (with_reducible refine' ine_f ?zqh ?_; (case zqh => x_auto))   | (with_reducible refine' ieq_t ?zqh ?_; (case zqh => x_auto))   | (with_reducible refine' ieq_f ?zqh ?_; (case zqh => x_auto))   | (with_reducible refine' dec_t ?zqh ?_; (case zqh => x_auto))   | (with_reducible refine' dec_f ?zqh ?_; (case zqh => x_auto)))
  k_with "eval BinOp" => (k_here; k_dflt (refine' IV.use ?zqd ?_; (case zqd => tb_rel); k_whole); intro t' tk')
  k_with "eval Tuple" => (k_here; k_dflt (refine' tup2 ?zqda ?zqdb ?zqF ?zqN ?_; (case zqda => tb_rel); (case zqdb => tb_rel); (case zqF => k_asm); (case zqN => k_asm); k_whole); intro D' t' u' h' tk' F' N' l1; (try k_lt l1); (try k_sweep))
  k_with "eval UnaryOp" => (k_here; k_dflt (refine' IV.use ?zqd ?_; (case zqd => tb_rel); k_whole); intro t' tk')
  k_with "eval Subscript" => (k_here; k_dflt (refine' IV.use ?zqd ?_; (case zqd => tb_rel); k_whole); intro t' tk')
  k_with "exec If" => (k_here; k_dflt (first | (refine' if_f ?zqd ?_; (case zqd => tb_rel); k_whole) | (refine' if_t ?zqd ?_; (case zqd => tb_rel); k_whole)); intro tk')
  k_with "OFFA" => (first | (refine' OffA.lt ?_; assumption) | (refine' OffA.cons ?zqc ?zqd; (case zqc => first | exact Or.inr (by k_cls) | exact Or.inl (by k_ne)); (case zqd => walk_at "OFFA")))
  k_with "WO" => (first | (refine' WO.here ?_; walk_at "OFFA") | (refine' WO.cons ?zqc ?zqd; (case zqc => first | exact Or.inr (by k_cls) | exact Or.inl (by k_ne)); (case zqd => walk_at "WO")))
  k_with "UnrEnd" => (refine' unr_end ?zqF ?zqN ?zqW ?_; (case zqF => k_asm); (case zqN => k_asm); (case zqW => walk_at "WO"))
  k_with "ENTER" => (refine' code_def ?zqk1 ?zqk2 ?zqk3 ?zqk4 ?zqk5 ?zqkA ?zqkF ?zqkK ?zqk6 ?zqk7 ?zqk8 ?zqk9 ?zqkB ?_ ?zqc2 ?zqc3 ?zqc4 ?zqc5; (case zqkA => exact rfl); (case zqkF => exact rfl); (case zqkK => assumption); (case zqk1 => k_asm); (case zqk2 => k_asm); (case zqk3 => k_asm); (case zqk4 => k_asm); (case zqk5 => k_asm); (case zqk6 => k_is); (case zqk7 => k_is); (case zqk8 => ktr_room); (case zqk9 => first | exact BindsTo.of_eq rfl | exact binds_K (by k_in) rfl (by k_is) rfl rfl rfl); (case zqc5 => decide); (case zqkB => exact locs rfl); (case zqc2 => exact rfl); (case zqc3 => exact rfl); (case zqc4 => exact rfl); k_whole; intro g' L' h' FG' F' N' B' X' T'; (try dsimp only); (try k_fold))
  k_with "call ref" => (k_here; k_dflt (refine' use_pair (cut_minusR ?zqp0 ?zqp1 ?zqp2 ?zqp3) ?zqk1 ?zqk2 ?zqk3 ?zqk4 ?zqk5 ?zqkK ?zqkd ?zqku ?_; (case zqk1 => k_asm); (case zqk2 => k_asm); (case zqk3 => k_asm); (case zqk4 => k_asm); (case zqk5 => k_asm); (case zqkK => first | exact rfl | assumption); (case zqp0 => k_get); (case zqp1 => k_get); (case zqp2 => k_get); (case zqp3 => k_get); (case zqkd => ktr_room); (case zqku => ktr_units); k_whole; intro a' t' u' h' tk' F' N'; (try k_sweep); (try dsimp only); (try k_fold)))
  k_with "call ref" => (k_here; k_dflt (refine' use_int (cut_compareLt ?zqp0 ?zqp1 ?zqp2 ?zqp3) ?zqk1 ?zqk2 ?zqk3 ?zqk4 ?zqk5 ?zqkK ?zqkd ?zqku ?_; (case zqk1 => k_asm); (case zqk2 => k_asm); (case zqk3 => k_asm); (case zqk4 => k_asm); (case zqk5 => k_asm); (case zqkK => first | exact rfl | assumption); (case zqp0 => k_get); (case zqp1 => k_get); (case zqp2 => k_get); (case zqp3 => k_get); (case zqkd => ktr_room); (case zqku => ktr_units); k_whole; intro t' h' tk' F' N'; (try k_sweep); (try dsimp only); (try k_fold)))
  k_with "call ref" => (k_here; k_dflt (refine' use_int (cut_compareEq ?zqp0 ?zqp1 ?zqp2 ?zqp3) ?zqk1 ?zqk2 ?zqk3 ?zqk4 ?zqk5 ?zqkK ?zqkd ?zqku ?_; (case zqk1 => k_asm); (case zqk2 => k_asm); (case zqk3 => k_asm); (case zqk4 => k_asm); (case zqk5 => k_asm); (case zqkK => first | exact rfl | assumption); (case zqp0 => k_get); (case zqp1 => k_get); (case zqp2 => k_get); (case zqp3 => k_get); (case zqkd => ktr_room); (case zqku => ktr_units); k_whole; intro t' h' tk' F' N'; (try k_sweep); (try dsimp only); (try k_fold)))
  k_with "call ref" => (k_here; k_dflt (refine' use_int (cut_compareGt ?zqp0 ?zqp1 ?zqp2 ?zqp3) ?zqk1 ?zqk2 ?zqk3 ?zqk4 ?zqk5 ?zqkK ?zqkd ?zqku ?_; (case zqk1 => k_asm); (case zqk2 => k_asm); (case zqk3 => k_asm); (case zqk4 => k_asm); (case zqk5 => k_asm); (case zqkK => first | exact rfl | assumption); (case zqp0 => k_get); (case zqp1 => k_get); (case zqp2 => k_get); (case zqp3 => k_get); (case zqkd => ktr_room); (case zqku => ktr_units); k_whole; intro t' h' tk' F' N'; (try k_sweep); (try dsimp only); (try k_fold)))
  k_with "call ref" => (k_here; k_dflt (refine' use_turn (cut_small ?zqp0 ?zqp1 ?zqp2 ?zqp3 ?zqp4 ?zqp5 ?zqp6) ?zqk1 ?zqk2 ?zqk3 ?zqk4 ?zqk5 ?zqkK ?zqkd ?zqku ?_; (case zqk1 => k_asm); (case zqk2 => k_asm); (case zqk3 => k_asm); (case zqk4 => k_asm); (case zqk5 => k_asm); (case zqkK => first | exact rfl | assumption); (case zqp0 => k_get); (case zqp1 => k_get); (case zqp2 => k_get); (case zqp3 => k_get); (case zqp4 => k_get); (case zqp5 => k_get); (case zqp6 => k_get); (case zqkd => ktr_room); (case zqku => ktr_units); k_whole; intro a' c' d' t' u' v' z' h' tk' F' N'; (try k_sweep); (try dsimp only); (try k_fold)))
  intro mean mg mb dp un gd cn cs c ccd cl outer A₀ base h₀ L m s Q E B F X N T hk hd hu hret
  have y1 : Bt 200 a0 := Nat.le_trans z1 (by decide)
  have y2 : Bt 200 a1 := Nat.le_trans z2 (by decide)
  k_with "P" => exact fracB_gt (by omega)
  walk_at "WALK"
set_option maxHeartbeats 4000000 in
theorem cut_qt_gt {w : World} {news : List (Addr × Obj)} {pa : Addr} {a0 a1 : Int} {ta ua : Tok} (ha : (pa, pairObj (.int a0 ta) (.int a1 ua)) ∈ news) {bt c0 c1 s0 s1 : Int} {t1 : Tok} (hs : 0 < a0 - 45 * a1) (H : stR (fracT (90 * a1 - a0) a1) (fracB (90 * a1 - a0) a1) bt = some (c0, c1, s0, s1)) (hd : 0 < a1) (hbt : 0 < bt) (z1 : Bt 100 a0) (z2 : Bt 100 a1) (z3 : Bt 200 bt) : Cut w 161 5 news [.ref pa, .int bt t1] (OTurn s0 s1 c0 c1) := by
  unfold Cut
  k_fill
  k_with_none
  k_with "ktr_room" => (first | exact dp_le (by with_reducible assumption) (by decide) | exact dp_le0 (by with_reducible assumption) (by decide) | exact Nat.lt_of_le_of_lt (Nat.le_add_right _ _) (by with_reducible assumption) | fail "room")
  k_with "ktr_units" => (first | exact un_le (by with_reducible assumption) (by decide) | exact un_le0 (by with_reducible assumption) (by decide) | exact Nat.lt_of_le_of_lt (Nat.le_add_right _ _) (by with_reducible assumption) | fail "units")
  k_with "k_slotset" => (intro p hp; repeat (first | exact hp | refine List.mem_cons_of_mem _ ?_))
  k_with "k_put" => (first | with_reducible rfl | omega | assumption | (simp only [Int.mul_one, Int.one_mul]; done) | (simp only [signV]; (repeat' split) <;> first | with_reducible rfl | omega) | k_extra "EQ")
  k_with "bits_by_make" => (first | with_reducible assumption | ((with_reducible apply bits_fracT); bits_by_make) | ((with_reducible apply bits_fracB); bits_by_make) | exact PySem.intBits_le_64 (by decide) (by decide) | exact PySem.intBits_le_64 (by omega) (by omega) | exact bits_lit200 (by decide +kernel) | fail "bits")
  k_with "k_slotget" => (first | exact List.mem_cons_self | with_reducible assumption | (refine' List.mem_cons_of_mem _ ?_; k_slotget) | fail "mem")
  k_with "subscriptTail Name Constant ref int" => (k_here; k_dflt (refine' item_tupleT (News.isTup ?zqn ?zqm) ?zqa ?zqb ?zqc ?zqd ?_; (case zqn => k_asm); (case zqm => k_slotget); (case zqa => decide); (case zqb => decide); (case zqc => exact rfl); (case zqd => exact rfl); k_whole))
  k_with "execs cons" => (with_reducible refine gen_toks3 (fun tk' => ?_))
  k_with "execs nil" => (with_reducible refine gen_toks3 (fun tk' => ?_))
  k_with "eval Name" => (k_here; k_dflt (first   | (refine' ld ?zqk1 ?zqk2 ?_; (case zqk1 => k_asm); (case zqk2 => exact rfl); k_whole)   | (refine' name_K ?zqkF ?zqk1 ?zqk2 ?zqk3 ?_; (case zqkF => k_asm); (case zqk1 => k_asm); (case zqk2 => k_asm); (case zqk3 => k_is); k_whole)))
  k_with "k_get" => (first | with_reducible assumption | k_slotget | exact Nat.le_trans (by with_reducible assumption) (by decide) | k_extra "P" | decide | omega | (refine intBits_le_64 ?_ ?_ <;> omega) | (exact Nat.le_trans (by bits_by_make) (by decide)) | assumption)
  k_with "ktd_handed" => (first | with_reducible assumption | decide | omega | k_extra "NZ")
  k_with "binaryOp FloorDiv int int" => (k_here; (with_reducible refine floordiv_int ?zqkbe ?_ (Or.inl (PyProof.noPylong_of_log2 ?zqkbp))); (case zqkbe => ktd_handed); (case zqkbp => exact log_of_bits (by bits_by_make) (by decide)))
  k_with "binaryOp Mod int int" => (k_here; (with_reducible refine mod_int' ?zqkbe ?_); (case zqkbe => ktd_handed))
  k_with "binaryOp Mod int int" => (with_reducible refine' mod_int_v ?zqhb ?zqe ?_; (case zqe => with_reducible assumption); (case zqhb => ktd_handed))
  k_with "binaryOp Mod int int" => (k_extra "MYMOD")
  k_with "binaryOp Mult int int" => (k_here; k_dflt (refine' PyProof.Rows.mul_int ?_ ?zqhm; (case zqhm => exact PyProof.Rows.mulOk_of_bits (by bits_by_make) (by bits_by_make) (by decide))))
  k_with "binaryOp Pow int int" => (with_reducible refine' pow2_int ?zqh ?_; (case zqh => first | with_reducible assumption | omega))
  k_with "exec Raise some none" => (exfalso; first | contradiction | omega)
  k_with "END" => (first   | (refine' ret_int ?zqh ?zqe ?zqF ?zqN ?zqsub; (case zqh => assumption); (case zqF => k_asm); (case zqN => k_asm); (case zqsub => k_slotset); (case zqe => k_put))   | (refine' ret_bool ?zqh ?zqe ?zqF ?zqN ?zqsub; (case zqh => assumption); (case zqF => k_asm); (case zqN => k_asm); (case zqsub => k_slotset); (case zqe => k_put))   | (refine' ret_pair ?zqh ?zqhm ?zqex ?zqey ?zqF ?zqN ?zqsub; (case zqh => assumption); (case zqF => k_asm); (case zqN => k_asm); (case zqsub => k_slotset); (case zqhm => k_slotget); (case zqex => k_put); (case zqey => k_put))   | (refine' ret_turn ?zqh ?zqhb ?zqhc ?zqhd ?zqe0 ?zqe1 ?zqe2 ?zqe3 ?zqF ?zqN ?zqsub; (case zqh => assumption); (case zqF => k_asm); (case zqN => k_asm); (case zqsub => k_slotset); (case zqhb => k_slotget); (case zqhc => k_slotget); (case zqhd => k_slotget); (case zqe0 => k_put); (case zqe1 => k_put); (case zqe2 => k_put); (case zqe3 => k_put)))
  k_with "exec While Compare cons nil" => (k_extra "MYWHILE")
  k_with "KswEnd" => (k_extra "MYTURN")
  k_with "x_auto" => (first | with_reducible assumption | omega | k_extra "FACT" | fail "fact")
  k_with "ite" => (first   | (with_reducible refine' ine_t ?zqh ?_; (case zqh => x_auto))   | (with_reducible refine' ine_f ?zqh ?_; (case zqh => x_auto))   | (with_reducible refine' ieq_t ?zqh ?_; (case zqh => x_auto))   | (with_reducible refine' ieq_f ?zqh ?_; (case zqh => x_auto))   | (with_reducible refine' dec_t ?zqh ?_; (case zqh => x_auto))   | (with_reducible refine' dec_f ?zqh ?_; (case zqh => x_auto)))
  k_with "eval BinOp" => (k_here; k_dflt (refine' IV.use ?zqd ?_; (case zqd => tb_rel); k_whole); intro t' tk')
  k_with "eval Tuple" => (k_here; k_dflt (refine' tup2 ?zqda ?zqdb ?zqF ?zqN ?_; (case zqda => tb_rel); (case zqdb => tb_rel); (case zqF => k_asm); (case zqN => k_asm); k_whole); intro D' t' u' h' tk' F' N' l1; (try k_lt l1); (try k_sweep))
  k_with "eval UnaryOp" => (k_here; k_dflt (refine' IV.use ?zqd ?_; (case zqd => tb_rel); k_whole); intro t' tk')
  k_with "eval Subscript" => (k_here; k_dflt (refine' IV.use ?zqd ?_; (case zqd => tb_rel); k_whole); intro t' tk')
  k_with "exec If" => (k_here; k_dflt (first | (refine' if_f ?zqd ?_; (case zqd => tb_rel); k_whole) | (refine' if_t ?zqd ?_; (case zqd => tb_rel); k_whole)); intro tk')
  k_with "OFFA" => (first | (refine' OffA.lt ?_; assumption) | (refine' OffA.cons ?zqc ?zqd; (case zqc => first | exact Or.inr (by k_cls) | exact Or.inl (by k_ne)); (case zqd => walk_at "OFFA")))
  k_with "WO" => (first | (refine' WO.here ?_; walk_at "OFFA") | (refine' WO.cons ?zqc ?zqd; (case zqc => first | exact Or.inr (by k_cls) | exact Or.inl (by k_ne)); (case zqd => walk_at "WO")))
  k_with "UnrEnd" => (refine' unr_end ?zqF ?zqN ?zqW ?_; (case zqF => k_asm); (case zqN => k_asm); (case zqW => walk_at "WO"))
  k_with "ENTER" => (refine' code_def ?zqk1 ?zqk2 ?zqk3 ?zqk4 ?zqk5 ?zqkA ?zqkF ?zqkK ?zqk6 ?zqk7 ?zqk8 ?zqk9 ?zqkB ?_ ?zqc2 ?zqc3 ?zqc4 ?zqc5; (case zqkA => exact rfl); (case zqkF => exact rfl); (case zqkK => assumption); (case zqk1 => k_asm); (case zqk2 => k_asm); (case zqk3 => k_asm); (case zqk4 => k_asm); (case zqk5 => k_asm); (case zqk6 => k_is); (case zqk7 => k_is); (case zqk8 => ktr_room); (case zqk9 => first | exact BindsTo.of_eq rfl | exact binds_K (by k_in) rfl (by k_is) rfl rfl rfl); (case zqc5 => decide); (case zqkB => exact locs rfl); (case zqc2 => exact rfl); (case zqc3 => exact rfl); (case zqc4 => exact rfl); k_whole; intro g' L' h' FG' F' N' B' X' T'; (try dsimp only); (try k_fold))
  k_with "call ref" => (k_here; k_dflt (refine' use_pair (cut_minusR ?zqp0 ?zqp1 ?zqp2 ?zqp3) ?zqk1 ?zqk2 ?zqk3 ?zqk4 ?zqk5 ?zqkK ?zqkd ?zqku ?_; (case zqk1 => k_asm); (case zqk2 => k_asm); (case zqk3 => k_asm); (case zqk4 => k_asm); (case zqk5 => k_asm); (case zqkK => first | exact rfl | assumption); (case zqp0 => k_get); (case zqp1 => k_get); (case zqp2 => k_get); (case zqp3 => k_get); (case zqkd => ktr_room); (case zqku => ktr_units); k_whole; intro a' t' u' h' tk' F' N'; (try k_sweep); (try dsimp only); (try k_fold)))
  k_with "call ref" => (k_here; k_dflt (refine' use_int (cut_compareLt ?zqp0 ?zqp1 ?zqp2 ?zqp3) ?zqk1 ?zqk2 ?zqk3 ?zqk4 ?zqk5 ?zqkK ?zqkd ?zqku ?_; (case zqk1 => k_asm); (case zqk2 => k_asm); (case zqk3 => k_asm); (case zqk4 => k_asm); (case zqk5 => k_asm); (case zqkK => first | exact rfl | assumption); (case zqp0 => k_get); (case zqp1 => k_get); (case zqp2 => k_get); (case zqp3 => k_get); (case zqkd => ktr_room); (case zqku => ktr_units); k_whole; intro t' h' tk' F' N'; (try k_sweep); (try dsimp only); (try k_fold)))
  k_with "call ref" => (k_here; k_dflt (refine' use_int (cut_compareEq ?zqp0 ?zqp1 ?zqp2 ?zqp3) ?zqk1 ?zqk2 ?zqk3 ?zqk4 ?zqk5 ?zqkK ?zqkd ?zqku ?_; (case zqk1 => k_asm); (case zqk2 => k_asm); (case zqk3 => k_asm); (case zqk4 => k_asm); (case zqk5 => k_asm); (case zqkK => first | exact rfl | assumption); (case zqp0 => k_get); (case zqp1 => k_get); (case zqp2 => k_get); (case zqp3 => k_get); (case zqkd => ktr_room); (case zqku => ktr_units); k_whole; intro t' h' tk' F' N'; (try k_sweep); (try dsimp only); (try k_fold)))
  k_with "call ref" => (k_here; k_dflt (refine' use_int (cut_compareGt ?zqp0 ?zqp1 ?zqp2 ?zqp3) ?zqk1 ?zqk2 ?zqk3 ?zqk4 ?zqk5 ?zqkK ?zqkd ?zqku ?_; (case zqk1 => k_asm); (case zqk2 => k_asm); (case zqk3 => k_asm); (case zqk4 => k_asm); (case zqk5 => k_asm); (case zqkK => first | exact rfl | assumption); (case zqp0 => k_get); (case zqp1 => k_get); (case zqp2 => k_get); (case zqp3 => k_get); (case zqkd => ktr_room); (case zqku => ktr_units); k_whole; intro t' h' tk' F' N'; (try k_sweep); (try dsimp only); (try k_fold)))
  k_with "call ref" => (k_here; k_dflt (refine' use_turn (cut_small ?zqp0 ?zqp1 ?zqp2 ?zqp3 ?zqp4 ?zqp5 ?zqp6) ?zqk1 ?zqk2 ?zqk3 ?zqk4 ?zqk5 ?zqkK ?zqkd ?zqku ?_; (case zqk1 => k_asm); (case zqk2 => k_asm); (case zqk3 => k_asm); (case zqk4 => k_asm); (case zqk5 => k_asm); (case zqkK => first | exact rfl | assumption); (case zqp0 => k_get); (case zqp1 => k_get); (case zqp2 => k_get); (case zqp3 => k_get); (case zqp4 => k_get); (case zqp5 => k_get); (case zqp6 => k_get); (case zqkd => ktr_room); (case zqku => ktr_units); k_whole; intro a' c' d' t' u' v' z' h' tk' F' N'; (try k_sweep); (try dsimp only); (try k_fold)))
  intro mean mg mb dp un gd cn cs c ccd cl outer A₀ base h₀ L m s Q E B F X N T hk hd hu hret
  k_with "P" => exact fracB_gt (by omega)
  walk_at "WALK"

theorem cut_qt {w : World} {news : List (Addr × Obj)} {pa : Addr} {a0 a1 : Int} {ta ua : Tok} (ha : (pa, pairObj (.int a0 ta) (.int a1 ua)) ∈ news) {bt c0 c1 s0 s1 : Int} {t1 : Tok} (H : qtR a0 a1 bt = some (c0, c1, s0, s1)) (hd : 0 < a1) (hbt : 0 < bt) (z1 : Bt 100 a0) (z2 : Bt 100 a1) (z3 : Bt 200 bt) : Cut w 161 5 news [.ref pa, .int bt t1] (OTurn c0 c1 s0 s1) := by
  unfold qtR at H
  split at H
  · exact cut_qt_lt ha (by assumption) H hd hbt z1 z2 z3
  split at H
  · obtain ⟨a, b, c, d, h1, h2⟩ := map_inv H
    injection h2 with h2 h3
    injection h3 with h3 h4
    injection h4 with h4 h5
    subst h2; subst h3; subst h4; subst h5
    exact cut_qt_eq ha (by assumption) h1 hd hbt z1 z2 z3
  · obtain ⟨a, b, c, d, h1, h2⟩ := map_inv H
    injection h2 with h2 h3
    injection h3 with h3 h4
    injection h4 with h4 h5
    subst h2; subst h3; subst h4; subst h5
    exact cut_qt_gt ha (by omega) h1 hd hbt z1 z2 z3
end
section
def rotN (v b0 b1 b2 b3 : Int) : Int × Int × Int × Int :=
  if v = 0 then (b0, b1, b2, b3) else if v = 1 then (-b2, b3, b0, b1) else if v = 2 then (-b0, b1, -b2, b3) else (b2, b3, -b0, b1)
theorem rot0 {b0 b1 b2 b3 c0 c1 s0 s1 : Int} (h : rotN 0 b0 b1 b2 b3 = (c0, c1, s0, s1)) : b0 = c0 ∧ b1 = c1 ∧ b2 = s0 ∧ b3 = s1 := by simpa [rotN] using h
theorem rot1 {b0 b1 b2 b3 c0 c1 s0 s1 : Int} (h : rotN 1 b0 b1 b2 b3 = (c0, c1, s0, s1)) : -b2 = c0 ∧ b3 = c1 ∧ b0 = s0 ∧ b1 = s1 := by simpa [rotN] using h
theorem rot2 {b0 b1 b2 b3 c0 c1 s0 s1 : Int} (h : rotN 2 b0 b1 b2 b3 = (c0, c1, s0, s1)) : -b0 = c0 ∧ b1 = c1 ∧ -b2 = s0 ∧ b3 = s1 := by simpa [rotN] using h
theorem rot3 {b0 b1 b2 b3 c0 c1 s0 s1 : Int} (h : rotN 3 b0 b1 b2 b3 = (c0, c1, s0, s1)) : b2 = c0 ∧ b3 = c1 ∧ -b0 = s0 ∧ b1 = s1 := by simpa [rotN] using h
def toR (n d bt : Int) : Option (Int × Int × Int × Int) :=
  let q := (fracT n (d * 90)).fdiv (fracB n (d * 90))
  let rt := fracT (n * 1 - 90 * q * d) (d * 1)
  let rb := fracB (n * 1 - 90 * q * d) (d * 1)
  if q.natAbs < 2 ^ 100 ∧ rt.natAbs < 2 ^ 100 ∧ rb.natAbs < 2 ^ 100 then
    if rt = 0 then some (rotN (q.fmod 4) 1 1 0 1) else (qtR rt rb bt).map fun x => rotN (q.fmod 4) x.1 x.2.1 x.2.2.1 x.2.2.2
  else none
abbrev prs (x : Addr × Addr × Tok × Tok × Tok × Tok) (c0 c1 s0 s1 : Int) (news : List (Addr × Obj)) : List (Addr × Obj) :=
  (x.1, pairObj (.int c0 x.2.2.1) (.int c1 x.2.2.2.1)) :: (x.2.1, pairObj (.int s0 x.2.2.2.2.1) (.int s1 x.2.2.2.2.2)) :: news
abbrev mcs (x : Addr × Addr × Tok × Tok × Tok × Tok) (m : PySem.Str → Option Value) (y : PySem.Str) : Option Value :=
  if y = PySem.Str.ofString "sine" then some (.ref x.2.1) else if y = PySem.Str.ofString "cosine" then some (.ref x.1) else m y
theorem mcs_same {m : PySem.Str → Option Value} {x : Addr × Addr × Tok × Tok × Tok × Tok} (hc : m (PySem.Str.ofString "cosine") = some (.ref x.1)) (hs : m (PySem.Str.ofString "sine") = some (.ref x.2.1)) : m = mcs x m := by
  funext y
  by_cases h1 : y = PySem.Str.ofString "sine"
  · simp only [mcs, h1, if_true]; exact hs
  · by_cases h2 : y = PySem.Str.ofString "cosine"
    · simp only [mcs, if_neg h1, h2, if_true]; rw [if_neg (by decide)]; exact hc
    · simp only [mcs, if_neg h1, if_neg h2]
section
variable {M : Model} {A : Around} {E : Value → Shared → Prop} {s : Shared} {h₀ : Heap} {L : Addr} {m : PySem.Str → Option Value} {news big : List (Addr × Obj)}
theorem if_pairs {b0 b1 b2 b3 : Int} {t : Sem Flow} {Q : Flow → Shared → Prop} (news : List (Addr × Obj)) (F : Fr h₀ L s.heap m)
    (h1 : wpAny M A t (JP h₀ L (fun x => mcs x m) (fun x => prs x b0 b1 b2 b3 news) s) E s)
    (h2 : ∀ c d t u v z h' tk', Fr h₀ L h' (mcs (c, d, t, u, v, z) m) → News h₀ L h' (prs (c, d, t, u, v, z) b0 b1 b2 b3 news) → Q .next { s with heap := h', toks := tk' }) : wpAny M A t Q E s :=
  jp_use h1 fun a h' tk' F' N' => h2 _ _ _ _ _ _ h' tk' F' N'
theorem jp_prs {b0 b1 b2 b3 : Int} {m₁ : PySem.Str → Option Value} {h' : Heap} {tk' : Nat} {c d : Addr} {t u v z : Tok} (F : Fr h₀ L h' m₁) (N : News h₀ L h' big) (hm : m₁ = mcs (c, d, t, u, v, z) m) (hc : (c, pairObj (.int b0 t) (.int b1 u)) ∈ big) (hd : (d, pairObj (.int b2 v) (.int b3 z)) ∈ big) (sub : ∀ p ∈ news, p ∈ big) :
    JP h₀ L (fun x => mcs x m) (fun x => prs x b0 b1 b2 b3 news) s .next { s with heap := h', toks := tk' } :=
  jp_mk (c, d, t, u, v, z) F N hm fun p hp => by
    rcases List.mem_cons.mp hp with rfl | hp
    · exact hc
    rcases List.mem_cons.mp hp with rfl | hp
    · exact hd
    · exact sub p hp
end
def RotEnd (h₀ : Heap) (L : Addr) (I : Addr) (it : Obj) (m₀ : PySem.Str → Option Value) (own : List (Addr × Obj)) (x0 x1 x2 x3 : Int) (s₁ : Shared) (s₂ : Shared) : Prop :=
  ∃ h' tk m' x, s₂ = { s₁ with heap := h', toks := tk } ∧ Fr h₀ L h' m' ∧ News h₀ L h' ((I, it) :: prs x (-x2) x3 x0 x1 own) ∧ m' (PySem.Str.ofString "cosine") = some (.ref x.1) ∧ m' (PySem.Str.ofString "sine") = some (.ref x.2.1) ∧ ∀ z, z ≠ PySem.Str.ofString "turn" → z ≠ PySem.Str.ofString "cosine" → z ≠ PySem.Str.ofString "sine" → m' z = m₀ z
def RotPost (h₀ : Heap) (L : Addr) (I : Addr) (it : Obj) (m₀ : PySem.Str → Option Value) (own : List (Addr × Obj)) (x0 x1 x2 x3 : Int) (s₁ : Shared) (Q : Flow → Shared → Prop) (f : Flow) (s₂ : Shared) : Prop :=
  match f with
  | .ret v => Q (.ret v) s₂
  | .brk => Q .next s₂
  | _ => RotEnd h₀ L I it m₀ own x0 x1 x2 x3 s₁ s₂
theorem rot_end {h₀ : Heap} {L I : Addr} {it : Obj} {m₀ m' : PySem.Str → Option Value} {own big : List (Addr × Obj)} {x0 x1 x2 x3 : Int} {s₁ : Shared} {Q : Flow → Shared → Prop} {h' : Heap} {tk : Nat} {c d : Addr} {t u v z : Tok}
    (F : Fr h₀ L h' m') (N : News h₀ L h' big) (kc : m' (PySem.Str.ofString "cosine") = some (.ref c)) (ks : m' (PySem.Str.ofString "sine") = some (.ref d)) (hI : (I, it) ∈ big) (hc : (c, pairObj (.int (-x2) t) (.int x3 u)) ∈ big) (hd : (d, pairObj (.int x0 v) (.int x1 z)) ∈ big) (sub : ∀ p ∈ own, p ∈ big)
    (j : ∀ z, z ≠ PySem.Str.ofString "turn" → z ≠ PySem.Str.ofString "cosine" → z ≠ PySem.Str.ofString "sine" → m' z = m₀ z) : RotPost h₀ L I it m₀ own x0 x1 x2 x3 s₁ Q .next { s₁ with heap := h', toks := tk } :=
  ⟨h', tk, m', (c, d, t, u, v, z), rfl, F, fun p hp => by
    rcases List.mem_cons.mp hp with rfl | hp
    · exact N _ hI
    rcases List.mem_cons.mp hp with rfl | hp
    · exact N _ hc
    rcases List.mem_cons.mp hp with rfl | hp
    · exact N _ hd
    · exact N _ (sub p hp), kc, ks, j⟩
theorem rot_succ {i : Nat} {b0 b1 b2 b3 x0 x1 x2 x3 : Int} (hi : i < 3) (h : rotN i b0 b1 b2 b3 = (x0, x1, x2, x3)) : rotN ((i + 1 : Nat) : Int) b0 b1 b2 b3 = (-x2, x3, x0, x1) := by
  match i, hi with
  | 0, _ => obtain ⟨rfl, rfl, rfl, rfl⟩ := rot0 h; rfl
  | 1, _ => obtain ⟨rfl, rfl, rfl, rfl⟩ := rot1 h; rfl
  | 2, _ => obtain ⟨rfl, rfl, rfl, rfl⟩ := rot2 h; simp [rotN]
theorem rot_inv {prog : Program} {w : World} {A : Around} {env : Env} {h₀ : Heap} {body : List Stmt} {Q : Flow → Shared → Prop} {E : Value → Shared → Prop} {s : Shared} {r : Addr} {v : Int} {t₀ u₀ v₀ : Tok} {m₀ : PySem.Str → Option Value} {news : List (Addr × Obj)} {c d : Addr} {t u v' z : Tok} {b0 b1 b2 b3 c0 c1 s0 s1 : Int} (own : List (Addr × Obj))
    (hh : A.handled = none) (hr : IsRange s.heap r 0 v 1 t₀ u₀ v₀) (hv : v = 0 ∨ v = 1 ∨ v = 2 ∨ v = 3) (F : Fr h₀ env.locals s.heap m₀) (N : News h₀ env.locals s.heap news) (kc : m₀ (PySem.Str.ofString "cosine") = some (.ref c)) (ks : m₀ (PySem.Str.ofString "sine") = some (.ref d)) (hc : (c, pairObj (.int b0 t) (.int b1 u)) ∈ news) (hd : (d, pairObj (.int b2 v') (.int b3 z)) ∈ news) (sub : ∀ p ∈ own, p ∈ news)
    (hrot : rotN v b0 b1 b2 b3 = (c0, c1, s0, s1))
    (turn : ∀ I it k t c d tt u v z x0 x1 x2 x3 h tk, Fr h₀ env.locals h (fun y => if y = PySem.Str.ofString "turn" then some (.int k t) else if y = PySem.Str.ofString "sine" then some (.ref d) else if y = PySem.Str.ofString "cosine" then some (.ref c) else m₀ y) → News h₀ env.locals h ((I, it) :: prs (c, d, tt, u, v, z) x0 x1 x2 x3 own) →
      wpAny (model prog w) A (execs body env) (RotPost h₀ env.locals I it m₀ own x0 x1 x2 x3 { s with heap := h, toks := tk } Q) E { s with heap := h, toks := tk })
    (done : ∀ (k : Option Value) c d t u v z h tk, Fr h₀ env.locals h (fun y => if y = PySem.Str.ofString "turn" then k else if y = PySem.Str.ofString "sine" then some (.ref d) else if y = PySem.Str.ofString "cosine" then some (.ref c) else m₀ y) → News h₀ env.locals h (prs (c, d, t, u, v, z) c0 c1 s0 s1 own) → Q .next { s with heap := h, toks := tk }) :
    wpAny (model prog w) A (pyIter (.ref r)) (fun it s₂ => LoopAtV prog w A h₀ env (PySem.Str.ofString "turn") body Q E it s₂) E s := by
  refine iter_rangeUnr (n := v.toNat) (news := prs (c, d, t, u, v', z) b0 b1 b2 b3 own) hh hr (by rcases hv with rfl | rfl | rfl | rfl <;> decide) (by rcases hv with rfl | rfl | rfl | rfl <;> decide) F (fun p hp => by
    rcases List.mem_cons.mp hp with rfl | hp
    · exact N _ hc
    rcases List.mem_cons.mp hp with rfl | hp
    · exact N _ hd
    · exact N _ (sub p hp)) (fun I hI => ?_)
  have off : ∀ p ∈ own, p.1 ≠ I := fun p hp => Nat.ne_of_lt (hI p (List.mem_cons_of_mem _ (List.mem_cons_of_mem _ hp)))
  have main : ∀ k i m nx (x : Addr × Addr × Tok × Tok × Tok × Tok) x0 x1 x2 x3, i + k = v.toNat → rotN i b0 b1 b2 b3 = (x0, x1, x2, x3) → nx = prs x x0 x1 x2 x3 own → m (PySem.Str.ofString "cosine") = some (.ref x.1) → m (PySem.Str.ofString "sine") = some (.ref x.2.1) →
      (∀ z, z ≠ PySem.Str.ofString "turn" → z ≠ PySem.Str.ofString "cosine" → z ≠ PySem.Str.ofString "sine" → m z = m₀ z) → RangeRest prog w A E h₀ env (PySem.Str.ofString "turn") body Q s I 0 v.toNat k i m nx := by
    intro k
    induction k with
    | zero =>
      rintro i m nx x x0 x1 x2 x3 hik hx rfl kc ks j
      refine RangeRest.zero fun h tk F' N' => ?_
      have hiv : (i : Int) = v := by omega
      rw [hiv, hrot] at hx
      obtain ⟨rfl, rfl, rfl, rfl⟩ : c0 = x0 ∧ c1 = x1 ∧ s0 = x2 ∧ s1 = x3 := by simpa using hx
      refine done (m (PySem.Str.ofString "turn")) _ _ _ _ _ _ h tk ?_ N'
      have e : m = fun y => if y = PySem.Str.ofString "turn" then m (PySem.Str.ofString "turn") else if y = PySem.Str.ofString "sine" then some (.ref x.2.1) else if y = PySem.Str.ofString "cosine" then some (.ref x.1) else m₀ y := by
        funext y
        by_cases h0 : y = PySem.Str.ofString "turn"
        · rw [if_pos h0, h0]
        by_cases h1 : y = PySem.Str.ofString "sine"
        · rw [if_neg h0, if_pos h1, h1]; exact ks
        by_cases h2 : y = PySem.Str.ofString "cosine"
        · rw [if_neg h0, if_neg h1, if_pos h2, h2]; exact kc
        rw [if_neg h0, if_neg h1, if_neg h2]; exact j y h0 h2 h1
      rw [← e]; exact F'
    | succ k ih =>
      rintro i m nx x x0 x1 x2 x3 hik hx rfl kc ks j
      refine RangeRest.succ fun t h tk F' N' => ?_
      have e : (fun y => if y = PySem.Str.ofString "turn" then some (Value.int (0 + (i : Int)) t) else m y) = fun y => if y = PySem.Str.ofString "turn" then some (Value.int (0 + (i : Int)) t) else if y = PySem.Str.ofString "sine" then some (.ref x.2.1) else if y = PySem.Str.ofString "cosine" then some (.ref x.1) else m₀ y := by
        funext y
        by_cases h0 : y = PySem.Str.ofString "turn"
        · rw [if_pos h0, if_pos h0]
        by_cases h1 : y = PySem.Str.ofString "sine"
        · rw [if_neg h0, if_neg h0, if_pos h1, h1]; exact ks
        by_cases h2 : y = PySem.Str.ofString "cosine"
        · rw [if_neg h0, if_neg h0, if_neg h1, if_pos h2, h2]; exact kc
        rw [if_neg h0, if_neg h0, if_neg h1, if_neg h2]; exact j y h0 h2 h1
      rw [e] at F'
      refine wpAny_mono (turn I _ _ t _ _ _ _ _ _ x0 x1 x2 x3 h tk F' N') (fun f s₂ p => ?_) fun _ _ x => x
      have fin : RotEnd h₀ env.locals I (itR (0 + ((i + 1 : Nat) : Int)) ((v.toNat : Int) - ((i + 1 : Nat) : Int))) m₀ own x0 x1 x2 x3 { s with heap := h, toks := tk } s₂ →
          UnrEnd h₀ env.locals { s with heap := h, toks := tk } I (itR (0 + ((i + 1 : Nat) : Int)) ((v.toNat : Int) - ((i + 1 : Nat) : Int))) (RangeRest prog w A E h₀ env (PySem.Str.ofString "turn") body Q s I 0 v.toNat k (i + 1)) s₂ := by
        rintro ⟨h', tk', m', x', e', F', N', kc', ks', j'⟩
        have ne : ∀ (a : Addr) (o : Obj), (a, o) ∈ prs x' (-x2) x3 x0 x1 own → o.cls = .type "tuple" → a ≠ I := by
          rintro a o hp ho rfl
          have h1 := (N' _ (List.mem_cons_of_mem _ hp)).1
          have h2 := (N' _ List.mem_cons_self).1
          have h3 := Option.some.inj (h1.symm.trans h2)
          dsimp only at h3
          rw [h3] at ho
          exact absurd ho (by simp [itR])
        refine ⟨h', tk', m', _, e', F', N', fun p hp => ?_, ih (i + 1) m' _ x' _ _ _ _ (by omega) (rot_succ (by omega) hx) rfl kc' ks' j'⟩
        rcases List.mem_cons.mp hp with rfl | hp
        · exact ne _ _ List.mem_cons_self rfl
        rcases List.mem_cons.mp hp with rfl | hp
        · exact ne _ _ (List.mem_cons_of_mem _ List.mem_cons_self) rfl
        · exact off p hp
      cases f with
      | ret v => exact p
      | brk => exact p
      | next => exact fin p
      | cont => exact fin p
  exact main _ 0 m₀ _ (c, d, t, u, v', z) b0 b1 b2 b3 (by omega) rfl rfl kc ks fun _ _ _ _ => rfl
set_option maxHeartbeats 4000000 in
theorem cut_turn_a {w : World} {news : List (Addr × Obj)} {pa : Addr} {a0 a1 : Int} {ta ua : Tok} (ha : (pa, pairObj (.int a0 ta) (.int a1 ua)) ∈ news) {bt q v rt rb b0 b1 b2 b3 c0 c1 s0 s1 : Int} {t1 : Tok} (hq : (fracT a0 (a1 * 90)).fdiv (fracB a0 (a1 * 90)) = q) (hrt : fracT (a0 * 1 - 90 * q * a1) (a1 * 1) = rt) (hrb : fracB (a0 * 1 - 90 * q * a1) (a1 * 1) = rb) (hv : q.fmod 4 = v) (hv4 : v = 0 ∨ v = 1 ∨ v = 2 ∨ v = 3) (hr : rotN v b0 b1 b2 b3 = (c0, c1, s0, s1)) (hx : (rt = 0 ∧ b0 = 1 ∧ b1 = 1 ∧ b2 = 0 ∧ b3 = 1) ∨ (rt ≠ 0 ∧ qtR rt rb bt = some (b0, b1, b2, b3))) (hd : 0 < a1) (hbt : 0 < bt) (z1 : Bt 100 a0) (z2 : Bt 100 a1) (z3 : Bt 200 bt) (z4 : Bt 100 q) (z5 : Bt 100 rt) (z6 : Bt 100 rb) : Cut w 169 6 news [.ref pa, .int bt t1] (OTurn c0 c1 s0 s1) := by
  w_top off
  unfold Cut
  k_fill
  k_with_none
  k_with "ktr_room" => (first | exact dp_le (by with_reducible assumption) (by decide) | exact dp_le0 (by with_reducible assumption) (by decide) | exact Nat.lt_of_le_of_lt (Nat.le_add_right _ _) (by with_reducible assumption) | fail "room")
  k_with "ktr_units" => (first | exact un_le (by with_reducible assumption) (by decide) | exact un_le0 (by with_reducible assumption) (by decide) | exact Nat.lt_of_le_of_lt (Nat.le_add_right _ _) (by with_reducible assumption) | fail "units")
  k_with "k_slotset" => (intro p hp; repeat (first | exact hp | refine List.mem_cons_of_mem _ ?_))
  k_with "k_put" => (first | with_reducible rfl | omega | assumption | (simp only [Int.mul_one, Int.one_mul]; done) | (simp only [signV]; (repeat' split) <;> first | with_reducible rfl | omega) | k_extra "EQ")
  k_with "bits_by_make" => (first | with_reducible assumption | ((with_reducible apply bits_fracT); bits_by_make) | ((with_reducible apply bits_fracB); bits_by_make) | exact PySem.intBits_le_64 (by decide) (by decide) | exact PySem.intBits_le_64 (by omega) (by omega) | exact bits_lit200 (by decide +kernel) | fail "bits")
  k_with "k_slotget" => (first | exact List.mem_cons_self | with_reducible assumption | (refine' List.mem_cons_of_mem _ ?_; k_slotget) | fail "mem")
  k_with "subscriptTail Name Constant ref int" => (k_here; k_dflt (refine' item_tupleT (News.isTup ?zqn ?zqm) ?zqa ?zqb ?zqc ?zqd ?_; (case zqn => k_asm); (case zqm => k_slotget); (case zqa => decide); (case zqb => decide); (case zqc => exact rfl); (case zqd => exact rfl); k_whole))
  k_with "execs cons" => (with_reducible refine gen_toks3 (fun tk' => ?_))
  k_with "execs nil" => (with_reducible refine gen_toks3 (fun tk' => ?_))
  k_with "eval Name" => (k_here; k_dflt (first   | (refine' ld ?zqk1 ?zqk2 ?_; (case zqk1 => k_asm); (case zqk2 => exact rfl); k_whole)   | (refine' name_K ?zqkF ?zqk1 ?zqk2 ?zqk3 ?_; (case zqkF => k_asm); (case zqk1 => k_asm); (case zqk2 => k_asm); (case zqk3 => k_is); k_whole)))
  k_with "k_get" => (first | with_reducible assumption | k_slotget | exact Nat.le_trans (by with_reducible assumption) (by decide) | k_extra "P" | decide | omega | (refine intBits_le_64 ?_ ?_ <;> omega) | (exact Nat.le_trans (by bits_by_make) (by decide)) | assumption)
  k_with "ktd_handed" => (first | with_reducible assumption | decide | omega | k_extra "NZ")
  k_with "binaryOp FloorDiv int int" => (k_here; (with_reducible refine floordiv_int ?zqkbe ?_ (Or.inl (PyProof.noPylong_of_log2 ?zqkbp))); (case zqkbe => ktd_handed); (case zqkbp => exact log_of_bits (by bits_by_make) (by decide)))
  k_with "binaryOp Mod int int" => (k_here; (with_reducible refine mod_int' ?zqkbe ?_); (case zqkbe => ktd_handed))
  k_with "binaryOp Mod int int" => (with_reducible refine' mod_int_v ?zqhb ?zqe ?_; (case zqe => with_reducible assumption); (case zqhb => ktd_handed))
  k_with "binaryOp Mod int int" => (k_extra "MYMOD")
  k_with "binaryOp Mult int int" => (k_here; k_dflt (refine' PyProof.Rows.mul_int ?_ ?zqhm; (case zqhm => exact PyProof.Rows.mulOk_of_bits (by bits_by_make) (by bits_by_make) (by decide))))
  k_with "binaryOp Pow int int" => (with_reducible refine' pow2_int ?zqh ?_; (case zqh => first | with_reducible assumption | omega))
  k_with "exec Raise some none" => (exfalso; first | contradiction | omega)
  k_with "END" => (first   | (refine' ret_int ?zqh ?zqe ?zqF ?zqN ?zqsub; (case zqh => assumption); (case zqF => k_asm); (case zqN => k_asm); (case zqsub => k_slotset); (case zqe => k_put))   | (refine' ret_bool ?zqh ?zqe ?zqF ?zqN ?zqsub; (case zqh => assumption); (case zqF => k_asm); (case zqN => k_asm); (case zqsub => k_slotset); (case zqe => k_put))   | (refine' ret_pair ?zqh ?zqhm ?zqex ?zqey ?zqF ?zqN ?zqsub; (case zqh => assumption); (case zqF => k_asm); (case zqN => k_asm); (case zqsub => k_slotset); (case zqhm => k_slotget); (case zqex => k_put); (case zqey => k_put))   | (refine' ret_turn ?zqh ?zqhb ?zqhc ?zqhd ?zqe0 ?zqe1 ?zqe2 ?zqe3 ?zqF ?zqN ?zqsub; (case zqh => assumption); (case zqF => k_asm); (case zqN => k_asm); (case zqsub => k_slotset); (case zqhb => k_slotget); (case zqhc => k_slotget); (case zqhd => k_slotget); (case zqe0 => k_put); (case zqe1 => k_put); (case zqe2 => k_put); (case zqe3 => k_put)))
  k_with "exec While Compare cons nil" => (k_extra "MYWHILE")
  k_with "KswEnd" => (k_extra "MYTURN")
  k_with "x_auto" => (first | with_reducible assumption | omega | k_extra "FACT" | fail "fact")
  k_with "ite" => (first   | (with_reducible refine' ine_t ?zqh ?_; (case zqh => x_auto))   | (with_reducible refine' ine_f ?zqh ?_; (case zqh => x_auto))   | (with_reducible refine' ieq_t ?zqh ?_; (case zqh => x_auto))   | (with_reducible refine' ieq_f ?zqh ?_; (case zqh => x_auto))   | (with_reducible refine' dec_t ?zqh ?_; (case zqh => x_auto))   | (with_reducible refine' dec_f ?zqh ?_; (case zqh => x_auto)))
  k_with "eval BinOp" => (k_here; k_dflt (refine' IV.use ?zqd ?_; (case zqd => tb_rel); k_whole); intro t' tk')
  k_with "eval Tuple" => (k_here; k_dflt (refine' tup2 ?zqda ?zqdb ?zqF ?zqN ?_; (case zqda => tb_rel); (case zqdb => tb_rel); (case zqF => k_asm); (case zqN => k_asm); k_whole); intro D' t' u' h' tk' F' N' l1; (try k_lt l1); (try k_sweep))
  k_with "eval UnaryOp" => (k_here; k_dflt (refine' IV.use ?zqd ?_; (case zqd => tb_rel); k_whole); intro t' tk')
  k_with "eval Subscript" => (k_here; k_dflt (refine' IV.use ?zqd ?_; (case zqd => tb_rel); k_whole); intro t' tk')
  k_with "exec If" => (k_here; k_dflt (first | (refine' if_f ?zqd ?_; (case zqd => tb_rel); k_whole) | (refine' if_t ?zqd ?_; (case zqd => tb_rel); k_whole)); intro tk')
  k_with "OFFA" => (first | (refine' OffA.lt ?_; assumption) | (refine' OffA.cons ?zqc ?zqd; (case zqc => first | exact Or.inr (by k_cls) | exact Or.inl (by k_ne)); (case zqd => walk_at "OFFA")))
  k_with "WO" => (first | (refine' WO.here ?_; walk_at "OFFA") | (refine' WO.cons ?zqc ?zqd; (case zqc => first | exact Or.inr (by k_cls) | exact Or.inl (by k_ne)); (case zqd => walk_at "WO")))
  k_with "UnrEnd" => (refine' unr_end ?zqF ?zqN ?zqW ?_; (case zqF => k_asm); (case zqN => k_asm); (case zqW => walk_at "WO"))
  k_with "ENTER" => (refine' code_def ?zqk1 ?zqk2 ?zqk3 ?zqk4 ?zqk5 ?zqkA ?zqkF ?zqkK ?zqk6 ?zqk7 ?zqk8 ?zqk9 ?zqkB ?_ ?zqc2 ?zqc3 ?zqc4 ?zqc5; (case zqkA => exact rfl); (case zqkF => exact rfl); (case zqkK => assumption); (case zqk1 => k_asm); (case zqk2 => k_asm); (case zqk3 => k_asm); (case zqk4 => k_asm); (case zqk5 => k_asm); (case zqk6 => k_is); (case zqk7 => k_is); (case zqk8 => ktr_room); (case zqk9 => first | exact BindsTo.of_eq rfl | exact binds_K (by k_in) rfl (by k_is) rfl rfl rfl); (case zqc5 => decide); (case zqkB => exact locs rfl); (case zqc2 => exact rfl); (case zqc3 => exact rfl); (case zqc4 => exact rfl); k_whole; intro g' L' h' FG' F' N' B' X' T'; (try dsimp only); (try k_fold))
  k_with "call ref" => (k_here; k_dflt (refine' use_pair (cut_dividedR ?zqp0 ?zqp1 ?zqp2 ?zqp3) ?zqk1 ?zqk2 ?zqk3 ?zqk4 ?zqk5 ?zqkK ?zqkd ?zqku ?_; (case zqk1 => k_asm); (case zqk2 => k_asm); (case zqk3 => k_asm); (case zqk4 => k_asm); (case zqk5 => k_asm); (case zqkK => first | exact rfl | assumption); (case zqp0 => k_get); (case zqp1 => k_get); (case zqp2 => k_get); (case zqp3 => k_get); (case zqkd => ktr_room); (case zqku => ktr_units); k_whole; intro a' t' u' h' tk' F' N'; (try k_sweep); (try dsimp only); (try k_fold)))
  k_with "call ref" => (k_here; k_dflt (refine' use_pair (cut_negated ?zqp0) ?zqk1 ?zqk2 ?zqk3 ?zqk4 ?zqk5 ?zqkK ?zqkd ?zqku ?_; (case zqk1 => k_asm); (case zqk2 => k_asm); (case zqk3 => k_asm); (case zqk4 => k_asm); (case zqk5 => k_asm); (case zqkK => first | exact rfl | assumption); (case zqp0 => k_get); (case zqkd => ktr_room); (case zqku => ktr_units); k_whole; intro a' t' u' h' tk' F' N'; (try k_sweep); (try dsimp only); (try k_fold)))
  k_with "call ref" => (k_here; k_dflt (refine' use_int (cut_floorE ?zqp0 ?zqp1 ?zqp2 ?zqp3) ?zqk1 ?zqk2 ?zqk3 ?zqk4 ?zqk5 ?zqkK ?zqkd ?zqku ?_; (case zqk1 => k_asm); (case zqk2 => k_asm); (case zqk3 => k_asm); (case zqk4 => k_asm); (case zqk5 => k_asm); (case zqkK => first | exact rfl | assumption); (case zqp0 => k_get); (case zqp1 => k_get); (case zqp2 => k_get); (case zqp3 => k_get); (case zqkd => ktr_room); (case zqku => ktr_units); k_whole; intro t' h' tk' F' N'; (try k_sweep); (try dsimp only); (try k_fold)))
  k_with "call ref" => (k_here; k_dflt (refine' use_pair (cut_minusE ?zqp0 ?zqp1 ?zqp2 ?zqp3 ?zqp4 ?zqp5 ?zqp6 ?zqp7 ?zqp8) ?zqk1 ?zqk2 ?zqk3 ?zqk4 ?zqk5 ?zqkK ?zqkd ?zqku ?_; (case zqk1 => k_asm); (case zqk2 => k_asm); (case zqk3 => k_asm); (case zqk4 => k_asm); (case zqk5 => k_asm); (case zqkK => first | exact rfl | assumption); (case zqp0 => k_get); (case zqp1 => k_get); (case zqp2 => k_get); (case zqp3 => k_get); (case zqp4 => k_get); (case zqp5 => k_get); (case zqp6 => k_get); (case zqp7 => k_get); (case zqp8 => k_get); (case zqkd => ktr_room); (case zqku => ktr_units); k_whole; intro a' t' u' h' tk' F' N'; (try k_sweep); (try dsimp only); (try k_fold)))
  k_with "call ref" => (k_here; k_dflt (refine' use_turn (cut_qt ?zqp0 ?zqp1 ?zqp2 ?zqp3 ?zqp4 ?zqp5 ?zqp6) ?zqk1 ?zqk2 ?zqk3 ?zqk4 ?zqk5 ?zqkK ?zqkd ?zqku ?_; (case zqk1 => k_asm); (case zqk2 => k_asm); (case zqk3 => k_asm); (case zqk4 => k_asm); (case zqk5 => k_asm); (case zqkK => first | exact rfl | assumption); (case zqp0 => k_get); (case zqp1 => k_get); (case zqp2 => k_get); (case zqp3 => k_get); (case zqp4 => k_get); (case zqp5 => k_get); (case zqp6 => k_get); (case zqkd => ktr_room); (case zqku => ktr_units); k_whole; intro a' c' d' t' u' v' z' h' tk' F' N'; (try k_sweep); (try dsimp only); (try k_fold)))
  k_with "exec If" => (k_here; k_dflt k_extra "MYIF")
  k_with "JP" => (refine' jp_prs ?zqF ?zqN ?zqhm ?zqhc ?zqhd ?zqsub; (case zqF => k_asm); (case zqN => k_asm); (case zqhm => first | exact rfl | exact mcs_same rfl rfl); (case zqhc => k_slotget); (case zqhd => k_slotget); (case zqsub => k_slotset))
  k_with "pyIter ref" => (k_here; k_dflt k_extra "MYLOOP")
  k_with "RotPost" => (refine' rot_end ?zqF ?zqN ?zqkc ?zqks ?zqhI ?zqhc ?zqhd ?zqsub ?zqj; (case zqF => k_asm); (case zqN => k_asm); (case zqkc => exact rfl); (case zqks => exact rfl); (case zqhI => k_slotget); (case zqhc => k_slotget); (case zqhd => k_slotget); (case zqsub => k_slotset); (case zqj => (intro z h0 h1 h2; simp [h0, h1, h2])))
  intro mean mg mb dp un gd cn cs c ccd cl outer A₀ base h₀ L m s Q E B F X N T hk hd hu hret
  have hg := fracB_ne (a := a0) (b := a1 * 90) (by omega)
  have hrb0 : 0 < rb := by rw [← hrb]; exact fracB_gt (by omega)
  have hd1 : a1 * 1 ≠ 0 := by omega
  k_with "MYIF" => (
    rename Fr _ _ _ _ => lF'
    refine if_pairs (b0 := b0) (b1 := b1) (b2 := b2) (b3 := b3) news lF' ?_ ?_
    clear hv4
    rcases hx with ⟨q0, q1, q2, q3, q4⟩ | ⟨q0, q1⟩
    subst q1
    subst q2
    subst q3
    subst q4
    refine' if_f ?d ?_
    (case d => tb_rel)
    intro tk'
    rotate_left
    refine' if_t ?e ?_
    (case e => tb_rel)
    intro tk'
    rotate_left
    clear hx
    try clear hrt
    try clear hrb
    try clear hrb0
    intro c' d' t' u' v' z' h' tk' F' N'
    clear lF'
    try dsimp only
    try k_sweep
    try k_fold)
  k_with "MYLOOP" => (
    rename IsRange _ _ _ _ _ _ _ _ => rgX
    refine' rot_inv news ?q1 rgX hv4 ?q2 ?q3 ?q4 ?q5 ?q6 ?q7 ?q8 hr ?_ ?_
    (case q1 => exact rfl)
    (case q2 => k_asm)
    (case q3 => k_asm)
    (case q4 => exact rfl)
    (case q5 => exact rfl)
    (case q6 => k_slotget)
    (case q7 => k_slotget)
    (case q8 => k_slotset)
    clear hr
    intro I' it' k' t' c' d' tt' u' v' z' x0' x1' x2' x3' h' tk' F' N'
    try clear hv4
    try dsimp only
    try k_sweep
    try k_fold
    rotate_left
    intro k' c' d' t' u' v' z' h' tk' F' N'
    try dsimp only
    try k_sweep
    try k_fold
    rotate_left)
  walk_at "WALK"

theorem fmod4 (q : Int) : q.fmod 4 = 0 ∨ q.fmod 4 = 1 ∨ q.fmod 4 = 2 ∨ q.fmod 4 = 3 := by
  rw [Int.fmod_eq_emod_of_nonneg _ (by decide)]; omega
theorem cut_turn {w : World} {news : List (Addr × Obj)} {pa : Addr} {a0 a1 : Int} {ta ua : Tok} (ha : (pa, pairObj (.int a0 ta) (.int a1 ua)) ∈ news) {bt c0 c1 s0 s1 : Int} {t1 : Tok} (H : toR a0 a1 bt = some (c0, c1, s0, s1)) (hd : 0 < a1) (hbt : 0 < bt) (z1 : Bt 100 a0) (z2 : Bt 100 a1) (z3 : Bt 200 bt) : Cut w 169 6 news [.ref pa, .int bt t1] (OTurn c0 c1 s0 s1) := by
  unfold toR at H
  dsimp only at H
  split at H
  · rename_i hb
    split at H
    · exact cut_turn_a ha rfl rfl rfl rfl (fmod4 _) (Option.some.inj H) (.inl ⟨by assumption, rfl, rfl, rfl, rfl⟩) hd hbt z1 z2 z3 (bits_of_lt hb.1) (bits_of_lt hb.2.1) (bits_of_lt hb.2.2)
    · obtain ⟨a, b, c, d, h1, h2⟩ := map_inv H
      exact cut_turn_a ha rfl rfl rfl rfl (fmod4 _) h2 (.inr ⟨by assumption, h1⟩) hd hbt z1 z2 z3 (bits_of_lt hb.1) (bits_of_lt hb.2.1) (bits_of_lt hb.2.2)
  · cases H
end
section
section
variable {w : World} {news : List (Addr × Obj)} {pa pb : Addr} {a0 a1 b0 b1 : Int} {ta ua tb ub : Tok}
theorem cut_dividedE {x y : Int} (ha : (pa, pairObj (.int a0 ta) (.int a1 ua)) ∈ news) (hb : (pb, pairObj (.int b0 tb) (.int b1 ub)) ∈ news) (e1 : fracT (a0 * b1) (a1 * b0) = x) (e2 : fracB (a0 * b1) (a1 * b0) = y)
    (sa0 : Bt 1500 a0) (sa1 : Bt 1500 a1) (sb0 : Bt 1500 b0) (sb1 : Bt 1500 b1) (hz : a1 * b0 ≠ 0) (hb0 : b0 ≠ 0) : Cut w 82 3 news [.ref pa, .ref pb] (OPair x y) := by
  subst e1; subst e2; exact cut_divided ha hb sa0 sa1 sb0 sb1 hz hb0
theorem cut_timesE {x y : Int} (ha : (pa, pairObj (.int a0 ta) (.int a1 ua)) ∈ news) (hb : (pb, pairObj (.int b0 tb) (.int b1 ub)) ∈ news) (e1 : fracT (a0 * b0) (a1 * b1) = x) (e2 : fracB (a0 * b0) (a1 * b1) = y)
    (sa0 : Bt 1500 a0) (sa1 : Bt 1500 a1) (sb0 : Bt 1500 b0) (sb1 : Bt 1500 b1) (hz : a1 * b1 ≠ 0) : Cut w 75 3 news [.ref pa, .ref pb] (OPair x y) := by
  subst e1; subst e2; exact cut_times ha hb sa0 sa1 sb0 sb1 hz
theorem cut_roundedE {x : Int} (ha : (pa, pairObj (.int a0 ta) (.int a1 ua)) ∈ news) (e1 : (2 * a0 + a1).fdiv (2 * a1) = x) (hz : a1 ≠ 0) (sa1 : Bt 1500 a1) : Cut w 124 1 news [.ref pa] (OInt x) := by
  subst e1; exact cut_rounded ha hz sa1
theorem cut_fractionE {a b x y : Int} {t u : Tok} (e1 : fracT a b = x) (e2 : fracB a b = y) (hb : b ≠ 0) (sb : Bt 4000 b) : Cut w 61 2 news [.int a t, .int b u] (OPair x y) := by
  subst e1; subst e2; exact cut_fraction hb sb
theorem cut_nearE {num sc bt x y : Int} {t1 t2 t3 : Tok} (e1 : fracT (rdV num sc bt) bt = x) (e2 : fracB (rdV num sc bt) bt = y) (hsc : sc ≠ 0) (hbt : bt ≠ 0) (s1 : Bt 1000 num) (s2 : Bt 400 sc) (s3 : Bt 400 bt) : Cut w 154 3 news [.int num t1, .int sc t2, .int bt t3] (OPair x y) := by
  subst e1; subst e2; exact cut_near hsc hbt s1 s2 s3
end
def sdGo : Nat → Int → Int → Int → Int → Int → Option Int
  | 0, _, _, _, _, _ => none
  | n + 1, sq, sc, total, term, step =>
    if term = 0 then some total else
    if term.natAbs < 2 ^ 200 ∧ 1 ≤ step ∧ step < 1000 then sdGo n sq sc (total + term.fdiv step) (-((term * sq).fdiv sc)) (step + 2)
    else none
theorem sdGo_step {n : Nat} {sq sc total term step r : Int} (h : sdGo n sq sc total term step = some r) :
    (term = 0 ∧ total = r) ∨ (term ≠ 0 ∧ term.natAbs < 2 ^ 200 ∧ 1 ≤ step ∧ step < 1000 ∧ ∃ n', n = n' + 1 ∧ sdGo n' sq sc (total + term.fdiv step) (-((term * sq).fdiv sc)) (step + 2) = some r) := by
  cases n with
  | zero => cases h
  | succ n =>
    unfold sdGo at h
    split at h
    · exact .inl ⟨by assumption, Option.some.inj h⟩
    · split at h
      · rename_i h1 h2
        exact .inr ⟨h1, h2.1, h2.2.1, h2.2.2, n, rfl, h⟩
      · cases h
set_option maxHeartbeats 4000000 in
theorem cut_sd {w : World} {news : List (Addr × Obj)} {sl sc Z r : Int} {t1 t2 : Tok} (H : sdGo 200 ((sl * sl).fdiv sc) sc 0 sl 1 = some Z) (hr : (Z * 180 * 100000000000000000000000000000000000000000000000000).fdiv 314159265358979323846264338327950288419716939937510 = r) (hsc : sc ≠ 0) (s1 : Bt 400 sl) (ssc : Bt 1000 sc) (sT : Bt 1000 Z) : Cut w 191 1 news [.int sl t1, .int sc t2] (OInt r) := by
  w_top off
  unfold Cut
  k_fill
  k_with_none
  k_with "ktr_room" => (first | exact dp_le (by with_reducible assumption) (by decide) | exact dp_le0 (by with_reducible assumption) (by decide) | exact Nat.lt_of_le_of_lt (Nat.le_add_right _ _) (by with_reducible assumption) | fail "room")
  k_with "ktr_units" => (first | exact un_le (by with_reducible assumption) (by decide) | exact un_le0 (by with_reducible assumption) (by decide) | exact Nat.lt_of_le_of_lt (Nat.le_add_right _ _) (by with_reducible assumption) | fail "units")
  k_with "k_slotset" => (intro p hp; repeat (first | exact hp | refine List.mem_cons_of_mem _ ?_))
  k_with "k_put" => (first | with_reducible rfl | omega | assumption | (simp only [Int.mul_one, Int.one_mul]; done) | (simp only [signV]; (repeat' split) <;> first | with_reducible rfl | omega) | k_extra "EQ")
  k_with "bits_by_make" => (first | with_reducible assumption | ((with_reducible apply bits_fracT); bits_by_make) | ((with_reducible apply bits_fracB); bits_by_make) | exact PySem.intBits_le_64 (by decide) (by decide) | exact PySem.intBits_le_64 (by omega) (by omega) | exact bits_lit200 (by decide +kernel) | fail "bits")
  k_with "k_slotget" => (first | exact List.mem_cons_self | with_reducible assumption | (refine' List.mem_cons_of_mem _ ?_; k_slotget) | fail "mem")
  k_with "subscriptTail Name Constant ref int" => (k_here; k_dflt (refine' item_tupleT (News.isTup ?zqn ?zqm) ?zqa ?zqb ?zqc ?zqd ?_; (case zqn => k_asm); (case zqm => k_slotget); (case zqa => decide); (case zqb => decide); (case zqc => exact rfl); (case zqd => exact rfl); k_whole))
  k_with "execs cons" => (with_reducible refine gen_toks3 (fun tk' => ?_))
  k_with "execs nil" => (with_reducible refine gen_toks3 (fun tk' => ?_))
  k_with "eval Name" => (k_here; k_dflt (first   | (refine' ld ?zqk1 ?zqk2 ?_; (case zqk1 => k_asm); (case zqk2 => exact rfl); k_whole)   | (refine' name_K ?zqkF ?zqk1 ?zqk2 ?zqk3 ?_; (case zqkF => k_asm); (case zqk1 => k_asm); (case zqk2 => k_asm); (case zqk3 => k_is); k_whole)))
  k_with "k_get" => (first | with_reducible assumption | k_slotget | exact Nat.le_trans (by with_reducible assumption) (by decide) | k_extra "P" | decide | omega | (refine intBits_le_64 ?_ ?_ <;> omega) | (exact Nat.le_trans (by bits_by_make) (by decide)) | assumption)
  k_with "ktd_handed" => (first | with_reducible assumption | decide | omega | k_extra "NZ")
  k_with "binaryOp FloorDiv int int" => (k_here; (with_reducible refine floordiv_int ?zqkbe ?_ (Or.inl (PyProof.noPylong_of_log2 ?zqkbp))); (case zqkbe => ktd_handed); (case zqkbp => exact log_of_bits (by bits_by_make) (by decide)))
  k_with "binaryOp Mod int int" => (k_here; (with_reducible refine mod_int' ?zqkbe ?_); (case zqkbe => ktd_handed))
  k_with "binaryOp Mod int int" => (with_reducible refine' mod_int_v ?zqhb ?zqe ?_; (case zqe => with_reducible assumption); (case zqhb => ktd_handed))
  k_with "binaryOp Mod int int" => (k_extra "MYMOD")
  k_with "binaryOp Mult int int" => (k_here; k_dflt (refine' PyProof.Rows.mul_int ?_ ?zqhm; (case zqhm => exact PyProof.Rows.mulOk_of_bits (by bits_by_make) (by bits_by_make) (by decide))))
  k_with "binaryOp Pow int int" => (with_reducible refine' pow2_int ?zqh ?_; (case zqh => first | with_reducible assumption | omega))
  k_with "exec Raise some none" => (exfalso; first | contradiction | omega)
  k_with "END" => (first   | (refine' ret_int ?zqh ?zqe ?zqF ?zqN ?zqsub; (case zqh => assumption); (case zqF => k_asm); (case zqN => k_asm); (case zqsub => k_slotset); (case zqe => k_put))   | (refine' ret_bool ?zqh ?zqe ?zqF ?zqN ?zqsub; (case zqh => assumption); (case zqF => k_asm); (case zqN => k_asm); (case zqsub => k_slotset); (case zqe => k_put))   | (refine' ret_pair ?zqh ?zqhm ?zqex ?zqey ?zqF ?zqN ?zqsub; (case zqh => assumption); (case zqF => k_asm); (case zqN => k_asm); (case zqsub => k_slotset); (case zqhm => k_slotget); (case zqex => k_put); (case zqey => k_put))   | (refine' ret_turn ?zqh ?zqhb ?zqhc ?zqhd ?zqe0 ?zqe1 ?zqe2 ?zqe3 ?zqF ?zqN ?zqsub; (case zqh => assumption); (case zqF => k_asm); (case zqN => k_asm); (case zqsub => k_slotset); (case zqhb => k_slotget); (case zqhc => k_slotget); (case zqhd => k_slotget); (case zqe0 => k_put); (case zqe1 => k_put); (case zqe2 => k_put); (case zqe3 => k_put)))
  k_with "exec While Compare cons nil" => (k_extra "MYWHILE")
  k_with "KswEnd" => (k_extra "MYTURN")
  k_with "x_auto" => (first | with_reducible assumption | omega | k_extra "FACT" | fail "fact")
  k_with "ite" => (first   | (with_reducible refine' ine_t ?zqh ?_; (case zqh => x_auto))   | (with_reducible refine' ine_f ?zqh ?_; (case zqh => x_auto))   | (with_reducible refine' ieq_t ?zqh ?_; (case zqh => x_auto))   | (with_reducible refine' ieq_f ?zqh ?_; (case zqh => x_auto))   | (with_reducible refine' dec_t ?zqh ?_; (case zqh => x_auto))   | (with_reducible refine' dec_f ?zqh ?_; (case zqh => x_auto)))
  k_with "eval BinOp" => (k_here; k_dflt (refine' IV.use ?zqd ?_; (case zqd => tb_rel); k_whole); intro t' tk')
  k_with "eval Tuple" => (k_here; k_dflt (refine' tup2 ?zqda ?zqdb ?zqF ?zqN ?_; (case zqda => tb_rel); (case zqdb => tb_rel); (case zqF => k_asm); (case zqN => k_asm); k_whole); intro D' t' u' h' tk' F' N' l1; (try k_lt l1); (try k_sweep))
  k_with "eval UnaryOp" => (k_here; k_dflt (refine' IV.use ?zqd ?_; (case zqd => tb_rel); k_whole); intro t' tk')
  k_with "eval Subscript" => (k_here; k_dflt (refine' IV.use ?zqd ?_; (case zqd => tb_rel); k_whole); intro t' tk')
  k_with "exec If" => (k_here; k_dflt (first | (refine' if_f ?zqd ?_; (case zqd => tb_rel); k_whole) | (refine' if_t ?zqd ?_; (case zqd => tb_rel); k_whole)); intro tk')
  k_with "OFFA" => (first | (refine' OffA.lt ?_; assumption) | (refine' OffA.cons ?zqc ?zqd; (case zqc => first | exact Or.inr (by k_cls) | exact Or.inl (by k_ne)); (case zqd => walk_at "OFFA")))
  k_with "WO" => (first | (refine' WO.here ?_; walk_at "OFFA") | (refine' WO.cons ?zqc ?zqd; (case zqc => first | exact Or.inr (by k_cls) | exact Or.inl (by k_ne)); (case zqd => walk_at "WO")))
  k_with "UnrEnd" => (refine' unr_end ?zqF ?zqN ?zqW ?_; (case zqF => k_asm); (case zqN => k_asm); (case zqW => walk_at "WO"))
  k_with "ENTER" => (refine' code_def ?zqk1 ?zqk2 ?zqk3 ?zqk4 ?zqk5 ?zqkA ?zqkF ?zqkK ?zqk6 ?zqk7 ?zqk8 ?zqk9 ?zqkB ?_ ?zqc2 ?zqc3 ?zqc4 ?zqc5; (case zqkA => exact rfl); (case zqkF => exact rfl); (case zqkK => assumption); (case zqk1 => k_asm); (case zqk2 => k_asm); (case zqk3 => k_asm); (case zqk4 => k_asm); (case zqk5 => k_asm); (case zqk6 => k_is); (case zqk7 => k_is); (case zqk8 => ktr_room); (case zqk9 => first | exact BindsTo.of_eq rfl | exact binds_K (by k_in) rfl (by k_is) rfl rfl rfl); (case zqc5 => decide); (case zqkB => exact locs rfl); (case zqc2 => exact rfl); (case zqc3 => exact rfl); (case zqc4 => exact rfl); k_whole; intro g' L' h' FG' F' N' B' X' T'; (try dsimp only); (try k_fold))
  intro mean mg mb dp un gd cn cs c ccd cl outer A₀ base h₀ L m s Q E B F X N T hk hd hu hret
  have ssq : Bt 2000 ((sl * sl).fdiv sc) := Nat.le_trans (by bits_by_make) (by decide)
  k_with "MYWHILE" => (
    with_unfolding_all refine' ksw_while (σ := Nat × Int × Int × Int × Tok × Tok × Tok) (fun _ => news) (fun c => [(PySem.Str.ofString "total", .int c.2.1 c.2.2.2.2.1), (PySem.Str.ofString "term", .int c.2.2.1 c.2.2.2.2.2.1), (PySem.Str.ofString "step", .int c.2.2.2.1 c.2.2.2.2.2.2)]) (fun _ => True) [] (fun c => sdGo c.1 ((sl * sl).fdiv sc) sc c.2.1 c.2.2.1 c.2.2.2.1 = some Z) (fun c => c.1) (200, _, _, _, _, _, _) ?kF ?kn trivial ?kk ?kp ?turn ?hE
    case kF => k_asm
    case kk => kst_all
    case kn => (refine' cb_drop ?cbN ?cbS; (case cbN => k_asm); (case cbS => k_slotset))
    case kp => exact H
    case hE => first | passes_own | with_unfolding_all passes_own
    rintro ⟨n, total, term, step, t1, t2, t3⟩ u1 h1 tk1 - hP F1 N1
    dsimp only at hP F1 N1 ⊢
    have hP' := sdGo_step hP
    rcases hP' with ⟨hz, hT⟩ | ⟨hz, hb1, hs1, hs2, n', hn, hP'⟩
    rotate_left
    have hb2 := bits_of_lt hb1
    have hb3 := bits_of_range (x := step) (by omega) hs2
    try k_fold
    rotate_left
    subst hz
    subst hT
    try k_fold)
  k_with "MYTURN" => (
    rename News _ _ _ _ => lN
    refine' ksw_end (n', _, _, _, _, _, _) (by assumption) lN ?kn trivial ?kk ?ks ?kp ?km
    case kk => kst_all
    case kn => k_slotset
    case ks => (intro z h2 h3; simp only [List.forall_mem_cons, ne_eq] at h2; simp [h2, kstB])
    case kp => exact hP'
    case km => (dsimp only; omega))
  walk_at "WALK"
set_option maxHeartbeats 4000000 in
theorem cut_tangent {w : World} {news : List (Addr × Obj)} {pa : Addr} {a0 a1 : Int} {ta ua : Tok} (ha : (pa, pairObj (.int a0 ta) (.int a1 ua)) ∈ news) {bt c0 c1 s0 s1 p q u v R x y : Int} {t1 : Tok} (H : toR a0 a1 (bt * 65536) = some (c0, c1, s0, s1)) (hc : c0 ≠ 0) (hs : s1 * c0 ≠ 0) (e1 : fracT (s0 * c1) (s1 * c0) = p) (e2 : fracB (s0 * c1) (s1 * c0) = q) (e3 : fracT (p * bt) (q * 1) = u) (e4 : fracB (p * bt) (q * 1) = v) (e5 : (2 * u + v).fdiv (2 * v) = R) (e6 : fracT R bt = x) (e7 : fracB R bt = y) (hd : 0 < a1) (hbt : 0 < bt) (z1 : Bt 100 a0) (z2 : Bt 100 a1) (z3 : Bt 100 bt) (y1 : Bt 200 c0) (y2 : Bt 200 c1) (y3 : Bt 200 s0) (y4 : Bt 200 s1) : Cut w 177 7 news [.ref pa, .int bt t1] (OPair x y) := by
  unfold Cut
  k_fill
  k_with_none
  k_with "ktr_room" => (first | exact dp_le (by with_reducible assumption) (by decide) | exact dp_le0 (by with_reducible assumption) (by decide) | exact Nat.lt_of_le_of_lt (Nat.le_add_right _ _) (by with_reducible assumption) | fail "room")
  k_with "ktr_units" => (first | exact un_le (by with_reducible assumption) (by decide) | exact un_le0 (by with_reducible assumption) (by decide) | exact Nat.lt_of_le_of_lt (Nat.le_add_right _ _) (by with_reducible assumption) | fail "units")
  k_with "k_slotset" => (intro p hp; repeat (first | exact hp | refine List.mem_cons_of_mem _ ?_))
  k_with "k_put" => (first | with_reducible rfl | omega | assumption | (simp only [Int.mul_one, Int.one_mul]; done) | (simp only [signV]; (repeat' split) <;> first | with_reducible rfl | omega) | k_extra "EQ")
  k_with "bits_by_make" => (first | with_reducible assumption | ((with_reducible apply bits_fracT); bits_by_make) | ((with_reducible apply bits_fracB); bits_by_make) | exact PySem.intBits_le_64 (by decide) (by decide) | exact PySem.intBits_le_64 (by omega) (by omega) | exact bits_lit200 (by decide +kernel) | fail "bits")
  k_with "k_slotget" => (first | exact List.mem_cons_self | with_reducible assumption | (refine' List.mem_cons_of_mem _ ?_; k_slotget) | fail "mem")
  k_with "subscriptTail Name Constant ref int" => (k_here; k_dflt (refine' item_tupleT (News.isTup ?zqn ?zqm) ?zqa ?zqb ?zqc ?zqd ?_; (case zqn => k_asm); (case zqm => k_slotget); (case zqa => decide); (case zqb => decide); (case zqc => exact rfl); (case zqd => exact rfl); k_whole))
  k_with "execs cons" => (with_reducible refine gen_toks3 (fun tk' => ?_))
  k_with "execs nil" => (with_reducible refine gen_toks3 (fun tk' => ?_))
  k_with "eval Name" => (k_here; k_dflt (first   | (refine' ld ?zqk1 ?zqk2 ?_; (case zqk1 => k_asm); (case zqk2 => exact rfl); k_whole)   | (refine' name_K ?zqkF ?zqk1 ?zqk2 ?zqk3 ?_; (case zqkF => k_asm); (case zqk1 => k_asm); (case zqk2 => k_asm); (case zqk3 => k_is); k_whole)))
  k_with "k_get" => (first | with_reducible assumption | k_slotget | exact Nat.le_trans (by with_reducible assumption) (by decide) | k_extra "P" | decide | omega | (refine intBits_le_64 ?_ ?_ <;> omega) | (exact Nat.le_trans (by bits_by_make) (by decide)) | assumption)
  k_with "ktd_handed" => (first | with_reducible assumption | decide | omega | k_extra "NZ")
  k_with "binaryOp FloorDiv int int" => (k_here; (with_reducible refine floordiv_int ?zqkbe ?_ (Or.inl (PyProof.noPylong_of_log2 ?zqkbp))); (case zqkbe => ktd_handed); (case zqkbp => exact log_of_bits (by bits_by_make) (by decide)))
  k_with "binaryOp Mod int int" => (k_here; (with_reducible refine mod_int' ?zqkbe ?_); (case zqkbe => ktd_handed))
  k_with "binaryOp Mod int int" => (with_reducible refine' mod_int_v ?zqhb ?zqe ?_; (case zqe => with_reducible assumption); (case zqhb => ktd_handed))
  k_with "binaryOp Mod int int" => (k_extra "MYMOD")
  k_with "binaryOp Mult int int" => (k_here; k_dflt (refine' PyProof.Rows.mul_int ?_ ?zqhm; (case zqhm => exact PyProof.Rows.mulOk_of_bits (by bits_by_make) (by bits_by_make) (by decide))))
  k_with "binaryOp Pow int int" => (with_reducible refine' pow2_int ?zqh ?_; (case zqh => first | with_reducible assumption | omega))
  k_with "exec Raise some none" => (exfalso; first | contradiction | omega)
  k_with "END" => (first   | (refine' ret_int ?zqh ?zqe ?zqF ?zqN ?zqsub; (case zqh => assumption); (case zqF => k_asm); (case zqN => k_asm); (case zqsub => k_slotset); (case zqe => k_put))   | (refine' ret_bool ?zqh ?zqe ?zqF ?zqN ?zqsub; (case zqh => assumption); (case zqF => k_asm); (case zqN => k_asm); (case zqsub => k_slotset); (case zqe => k_put))   | (refine' ret_pair ?zqh ?zqhm ?zqex ?zqey ?zqF ?zqN ?zqsub; (case zqh => assumption); (case zqF => k_asm); (case zqN => k_asm); (case zqsub => k_slotset); (case zqhm => k_slotget); (case zqex => k_put); (case zqey => k_put))   | (refine' ret_turn ?zqh ?zqhb ?zqhc ?zqhd ?zqe0 ?zqe1 ?zqe2 ?zqe3 ?zqF ?zqN ?zqsub; (case zqh => assumption); (case zqF => k_asm); (case zqN => k_asm); (case zqsub => k_slotset); (case zqhb => k_slotget); (case zqhc => k_slotget); (case zqhd => k_slotget); (case zqe0 => k_put); (case zqe1 => k_put); (case zqe2 => k_put); (case zqe3 => k_put)))
  k_with "exec While Compare cons nil" => (k_extra "MYWHILE")
  k_with "KswEnd" => (k_extra "MYTURN")
  k_with "x_auto" => (first | with_reducible assumption | omega | k_extra "FACT" | fail "fact")
  k_with "ite" => (first   | (with_reducible refine' ine_t ?zqh ?_; (case zqh => x_auto))   | (with_reducible refine' ine_f ?zqh ?_; (case zqh => x_auto))   | (with_reducible refine' ieq_t ?zqh ?_; (case zqh => x_auto))   | (with_reducible refine' ieq_f ?zqh ?_; (case zqh => x_auto))   | (with_reducible refine' dec_t ?zqh ?_; (case zqh => x_auto))   | (with_reducible refine' dec_f ?zqh ?_; (case zqh => x_auto)))
  k_with "eval BinOp" => (k_here; k_dflt (refine' IV.use ?zqd ?_; (case zqd => tb_rel); k_whole); intro t' tk')
  k_with "eval Tuple" => (k_here; k_dflt (refine' tup2 ?zqda ?zqdb ?zqF ?zqN ?_; (case zqda => tb_rel); (case zqdb => tb_rel); (case zqF => k_asm); (case zqN => k_asm); k_whole); intro D' t' u' h' tk' F' N' l1; (try k_lt l1); (try k_sweep))
  k_with "eval UnaryOp" => (k_here; k_dflt (refine' IV.use ?zqd ?_; (case zqd => tb_rel); k_whole); intro t' tk')
  k_with "eval Subscript" => (k_here; k_dflt (refine' IV.use ?zqd ?_; (case zqd => tb_rel); k_whole); intro t' tk')
  k_with "exec If" => (k_here; k_dflt (first | (refine' if_f ?zqd ?_; (case zqd => tb_rel); k_whole) | (refine' if_t ?zqd ?_; (case zqd => tb_rel); k_whole)); intro tk')
  k_with "OFFA" => (first | (refine' OffA.lt ?_; assumption) | (refine' OffA.cons ?zqc ?zqd; (case zqc => first | exact Or.inr (by k_cls) | exact Or.inl (by k_ne)); (case zqd => walk_at "OFFA")))
  k_with "WO" => (first | (refine' WO.here ?_; walk_at "OFFA") | (refine' WO.cons ?zqc ?zqd; (case zqc => first | exact Or.inr (by k_cls) | exact Or.inl (by k_ne)); (case zqd => walk_at "WO")))
  k_with "UnrEnd" => (refine' unr_end ?zqF ?zqN ?zqW ?_; (case zqF => k_asm); (case zqN => k_asm); (case zqW => walk_at "WO"))
  k_with "ENTER" => (refine' code_def ?zqk1 ?zqk2 ?zqk3 ?zqk4 ?zqk5 ?zqkA ?zqkF ?zqkK ?zqk6 ?zqk7 ?zqk8 ?zqk9 ?zqkB ?_ ?zqc2 ?zqc3 ?zqc4 ?zqc5; (case zqkA => exact rfl); (case zqkF => exact rfl); (case zqkK => assumption); (case zqk1 => k_asm); (case zqk2 => k_asm); (case zqk3 => k_asm); (case zqk4 => k_asm); (case zqk5 => k_asm); (case zqk6 => k_is); (case zqk7 => k_is); (case zqk8 => ktr_room); (case zqk9 => first | exact BindsTo.of_eq rfl | exact binds_K (by k_in) rfl (by k_is) rfl rfl rfl); (case zqc5 => decide); (case zqkB => exact locs rfl); (case zqc2 => exact rfl); (case zqc3 => exact rfl); (case zqc4 => exact rfl); k_whole; intro g' L' h' FG' F' N' B' X' T'; (try dsimp only); (try k_fold))
  k_with "call ref" => (k_here; k_dflt (refine' use_pair (cut_dividedE ?zqp0 ?zqp1 ?zqp2 ?zqp3 ?zqp4 ?zqp5 ?zqp6 ?zqp7 ?zqp8 ?zqp9) ?zqk1 ?zqk2 ?zqk3 ?zqk4 ?zqk5 ?zqkK ?zqkd ?zqku ?_; (case zqk1 => k_asm); (case zqk2 => k_asm); (case zqk3 => k_asm); (case zqk4 => k_asm); (case zqk5 => k_asm); (case zqkK => first | exact rfl | assumption); (case zqp0 => k_get); (case zqp1 => k_get); (case zqp2 => k_get); (case zqp3 => k_get); (case zqp4 => k_get); (case zqp5 => k_get); (case zqp6 => k_get); (case zqp7 => k_get); (case zqp8 => k_get); (case zqp9 => k_get); (case zqkd => ktr_room); (case zqku => ktr_units); k_whole; intro a' t' u' h' tk' F' N'; (try k_sweep); (try dsimp only); (try k_fold)))
  k_with "call ref" => (k_here; k_dflt (refine' use_pair (cut_timesE ?zqp0 ?zqp1 ?zqp2 ?zqp3 ?zqp4 ?zqp5 ?zqp6 ?zqp7 ?zqp8) ?zqk1 ?zqk2 ?zqk3 ?zqk4 ?zqk5 ?zqkK ?zqkd ?zqku ?_; (case zqk1 => k_asm); (case zqk2 => k_asm); (case zqk3 => k_asm); (case zqk4 => k_asm); (case zqk5 => k_asm); (case zqkK => first | exact rfl | assumption); (case zqp0 => k_get); (case zqp1 => k_get); (case zqp2 => k_get); (case zqp3 => k_get); (case zqp4 => k_get); (case zqp5 => k_get); (case zqp6 => k_get); (case zqp7 => k_get); (case zqp8 => k_get); (case zqkd => ktr_room); (case zqku => ktr_units); k_whole; intro a' t' u' h' tk' F' N'; (try k_sweep); (try dsimp only); (try k_fold)))
  k_with "call ref" => (k_here; k_dflt (refine' use_int (cut_roundedE ?zqp0 ?zqp1 ?zqp2 ?zqp3) ?zqk1 ?zqk2 ?zqk3 ?zqk4 ?zqk5 ?zqkK ?zqkd ?zqku ?_; (case zqk1 => k_asm); (case zqk2 => k_asm); (case zqk3 => k_asm); (case zqk4 => k_asm); (case zqk5 => k_asm); (case zqkK => first | exact rfl | assumption); (case zqp0 => k_get); (case zqp1 => k_get); (case zqp2 => k_get); (case zqp3 => k_get); (case zqkd => ktr_room); (case zqku => ktr_units); k_whole; intro t' h' tk' F' N'; (try k_sweep); (try dsimp only); (try k_fold)))
  k_with "call ref" => (k_here; k_dflt (refine' use_pair (cut_fractionE ?zqp0 ?zqp1 ?zqp2 ?zqp3) ?zqk1 ?zqk2 ?zqk3 ?zqk4 ?zqk5 ?zqkK ?zqkd ?zqku ?_; (case zqk1 => k_asm); (case zqk2 => k_asm); (case zqk3 => k_asm); (case zqk4 => k_asm); (case zqk5 => k_asm); (case zqkK => first | exact rfl | assumption); (case zqp0 => k_get); (case zqp1 => k_get); (case zqp2 => k_get); (case zqp3 => k_get); (case zqkd => ktr_room); (case zqku => ktr_units); k_whole; intro a' t' u' h' tk' F' N'; (try k_sweep); (try dsimp only); (try k_fold)))
  k_with "call ref" => (k_here; k_dflt (refine' use_turn (cut_turn ?zqp0 ?zqp1 ?zqp2 ?zqp3 ?zqp4 ?zqp5 ?zqp6) ?zqk1 ?zqk2 ?zqk3 ?zqk4 ?zqk5 ?zqkK ?zqkd ?zqku ?_; (case zqk1 => k_asm); (case zqk2 => k_asm); (case zqk3 => k_asm); (case zqk4 => k_asm); (case zqk5 => k_asm); (case zqkK => first | exact rfl | assumption); (case zqp0 => k_get); (case zqp1 => k_get); (case zqp2 => k_get); (case zqp3 => k_get); (case zqp4 => k_get); (case zqp5 => k_get); (case zqp6 => k_get); (case zqkd => ktr_room); (case zqku => ktr_units); k_whole; intro a' c' d' t' u' v' z' h' tk' F' N'; (try k_sweep); (try dsimp only); (try k_fold)))
  intro mean mg mb dp un gd cn cs c ccd cl outer A₀ base h₀ L m s Q E B F X N T hk hd hu hret
  have q1 : Bt 400 p := by rw [← e1]; exact Nat.le_trans (by bits_by_make) (by decide)
  have q2 : Bt 400 q := by rw [← e2]; exact Nat.le_trans (by bits_by_make) (by decide)
  have q3 : 0 < q := by rw [← e2]; exact fracB_gt hs
  have q4 : q * 1 ≠ 0 := by omega
  have q5 : Bt 1500 v := by rw [← e4]; exact Nat.le_trans (by bits_by_make) (by decide)
  have q6 : v ≠ 0 := by rw [← e4]; exact fracB_ne q4
  walk_at "WALK"
end
section
def sdR (sl sc : Int) : Option Int :=
  if sl.natAbs < 2 ^ 400 then
    match sdGo 200 ((sl * sl).fdiv sc) sc 0 sl 1 with
    | none => none
    | some Z => if Z.natAbs < 2 ^ 1000 then some ((Z * 180 * 100000000000000000000000000000000000000000000000000).fdiv 314159265358979323846264338327950288419716939937510) else none
  else none
structure SDH (sl sc r : Int) : Prop where
  h : sdR sl sc = some r
theorem cut_sdH {w : World} {news : List (Addr × Obj)} {sl sc r : Int} {t1 t2 : Tok} (H : SDH sl sc r) (hsc : sc ≠ 0) (ssc : Bt 1000 sc) : Cut w 191 1 news [.int sl t1, .int sc t2] (OInt r) := by
  have h := H.h
  unfold sdR at h
  split at h
  · rename_i hb
    split at h
    · cases h
    · rename_i Z hZ
      split at h
      · rename_i hZb
        exact cut_sd hZ (Option.some.inj h) hsc (bits_of_lt hb) ssc (bits_of_lt hZb)
      · cases h
  · cases h
def slR (tp un sc : Int) : Option Int :=
  if 5 * tp > 2 * un then (sdR (((un - tp) * sc).fdiv (un + tp)) sc).map fun r => 45 * sc - r else sdR ((tp * sc).fdiv un) sc
structure SLH (tp un sc r : Int) : Prop where
  h : slR tp un sc = some r
set_option maxHeartbeats 4000000 in
theorem cut_slope_hi {w : World} {news : List (Addr × Obj)}  {tp un bt r : Int} {t1 t2 t3 : Tok} (hc : 5 * tp > 2 * un) (H : SDH (((un - tp) * (bt * 65536)).fdiv (un + tp)) (bt * 65536) r) (hu : 0 < un) (ht : 0 ≤ tp) (hbt : 0 < bt) (z1 : Bt 100 tp) (z2 : Bt 100 un) (z3 : Bt 100 bt) : Cut w 184 2 news [.int tp t1, .int un t2, .int bt t3] (OInt (45 * (bt * 65536) - r)) := by
  w_top off
  unfold Cut
  k_fill
  k_with_none
  k_with "ktr_room" => (first | exact dp_le (by with_reducible assumption) (by decide) | exact dp_le0 (by with_reducible assumption) (by decide) | exact Nat.lt_of_le_of_lt (Nat.le_add_right _ _) (by with_reducible assumption) | fail "room")
  k_with "ktr_units" => (first | exact un_le (by with_reducible assumption) (by decide) | exact un_le0 (by with_reducible assumption) (by decide) | exact Nat.lt_of_le_of_lt (Nat.le_add_right _ _) (by with_reducible assumption) | fail "units")
  k_with "k_slotset" => (intro p hp; repeat (first | exact hp | refine List.mem_cons_of_mem _ ?_))
  k_with "k_put" => (first | with_reducible rfl | omega | assumption | (simp only [Int.mul_one, Int.one_mul]; done) | (simp only [signV]; (repeat' split) <;> first | with_reducible rfl | omega) | k_extra "EQ")
  k_with "bits_by_make" => (first | with_reducible assumption | ((with_reducible apply bits_fracT); bits_by_make) | ((with_reducible apply bits_fracB); bits_by_make) | exact PySem.intBits_le_64 (by decide) (by decide) | exact PySem.intBits_le_64 (by omega) (by omega) | exact bits_lit200 (by decide +kernel) | fail "bits")
  k_with "k_slotget" => (first | exact List.mem_cons_self | with_reducible assumption | (refine' List.mem_cons_of_mem _ ?_; k_slotget) | fail "mem")
  k_with "subscriptTail Name Constant ref int" => (k_here; k_dflt (refine' item_tupleT (News.isTup ?zqn ?zqm) ?zqa ?zqb ?zqc ?zqd ?_; (case zqn => k_asm); (case zqm => k_slotget); (case zqa => decide); (case zqb => decide); (case zqc => exact rfl); (case zqd => exact rfl); k_whole))
  k_with "execs cons" => (with_reducible refine gen_toks3 (fun tk' => ?_))
  k_with "execs nil" => (with_reducible refine gen_toks3 (fun tk' => ?_))
  k_with "eval Name" => (k_here; k_dflt (first   | (refine' ld ?zqk1 ?zqk2 ?_; (case zqk1 => k_asm); (case zqk2 => exact rfl); k_whole)   | (refine' name_K ?zqkF ?zqk1 ?zqk2 ?zqk3 ?_; (case zqkF => k_asm); (case zqk1 => k_asm); (case zqk2 => k_asm); (case zqk3 => k_is); k_whole)))
  k_with "k_get" => (first | with_reducible assumption | k_slotget | exact Nat.le_trans (by with_reducible assumption) (by decide) | k_extra "P" | decide | omega | (refine intBits_le_64 ?_ ?_ <;> omega) | (exact Nat.le_trans (by bits_by_make) (by decide)) | assumption)
  k_with "ktd_handed" => (first | with_reducible assumption | decide | omega | k_extra "NZ")
  k_with "binaryOp FloorDiv int int" => (k_here; (with_reducible refine floordiv_int ?zqkbe ?_ (Or.inl (PyProof.noPylong_of_log2 ?zqkbp))); (case zqkbe => ktd_handed); (case zqkbp => exact log_of_bits (by bits_by_make) (by decide)))
  k_with "binaryOp Mod int int" => (k_here; (with_reducible refine mod_int' ?zqkbe ?_); (case zqkbe => ktd_handed))
  k_with "binaryOp Mod int int" => (with_reducible refine' mod_int_v ?zqhb ?zqe ?_; (case zqe => with_reducible assumption); (case zqhb => ktd_handed))
  k_with "binaryOp Mod int int" => (k_extra "MYMOD")
  k_with "binaryOp Mult int int" => (k_here; k_dflt (refine' PyProof.Rows.mul_int ?_ ?zqhm; (case zqhm => exact PyProof.Rows.mulOk_of_bits (by bits_by_make) (by bits_by_make) (by decide))))
  k_with "binaryOp Pow int int" => (with_reducible refine' pow2_int ?zqh ?_; (case zqh => first | with_reducible assumption | omega))
  k_with "exec Raise some none" => (exfalso; first | contradiction | omega)
  k_with "END" => (first   | (refine' ret_int ?zqh ?zqe ?zqF ?zqN ?zqsub; (case zqh => assumption); (case zqF => k_asm); (case zqN => k_asm); (case zqsub => k_slotset); (case zqe => k_put))   | (refine' ret_bool ?zqh ?zqe ?zqF ?zqN ?zqsub; (case zqh => assumption); (case zqF => k_asm); (case zqN => k_asm); (case zqsub => k_slotset); (case zqe => k_put))   | (refine' ret_pair ?zqh ?zqhm ?zqex ?zqey ?zqF ?zqN ?zqsub; (case zqh => assumption); (case zqF => k_asm); (case zqN => k_asm); (case zqsub => k_slotset); (case zqhm => k_slotget); (case zqex => k_put); (case zqey => k_put))   | (refine' ret_turn ?zqh ?zqhb ?zqhc ?zqhd ?zqe0 ?zqe1 ?zqe2 ?zqe3 ?zqF ?zqN ?zqsub; (case zqh => assumption); (case zqF => k_asm); (case zqN => k_asm); (case zqsub => k_slotset); (case zqhb => k_slotget); (case zqhc => k_slotget); (case zqhd => k_slotget); (case zqe0 => k_put); (case zqe1 => k_put); (case zqe2 => k_put); (case zqe3 => k_put)))
  k_with "exec While Compare cons nil" => (k_extra "MYWHILE")
  k_with "KswEnd" => (k_extra "MYTURN")
  k_with "x_auto" => (first | with_reducible assumption | omega | k_extra "FACT" | fail "fact")
  k_with "ite" => (first   | (with_reducible refine' ine_t ?zqh ?_; (case zqh => x_auto))   | (with_reducible refine' ine_f ?zqh ?_; (case zqh => x_auto))   | (with_reducible refine' ieq_t ?zqh ?_; (case zqh => x_auto))   | (with_reducible refine' ieq_f ?zqh ?_; (case zqh => x_auto))   | (with_reducible refine' dec_t ?zqh ?_; (case zqh => x_auto))   | (with_reducible refine' dec_f ?zqh ?_; (case zqh => x_auto)))
  k_with "eval BinOp" => (k_here; k_dflt (refine' IV.use ?zqd ?_; (case zqd => tb_rel); k_whole); intro t' tk')
  k_with "eval Tuple" => (k_here; k_dflt (refine' tup2 ?zqda ?zqdb ?zqF ?zqN ?_; (case zqda => tb_rel); (case zqdb => tb_rel); (case zqF => k_asm); (case zqN => k_asm); k_whole); intro D' t' u' h' tk' F' N' l1; (try k_lt l1); (try k_sweep))
  k_with "eval UnaryOp" => (k_here; k_dflt (refine' IV.use ?zqd ?_; (case zqd => tb_rel); k_whole); intro t' tk')
  k_with "eval Subscript" => (k_here; k_dflt (refine' IV.use ?zqd ?_; (case zqd => tb_rel); k_whole); intro t' tk')
  k_with "exec If" => (k_here; k_dflt (first | (refine' if_f ?zqd ?_; (case zqd => tb_rel); k_whole) | (refine' if_t ?zqd ?_; (case zqd => tb_rel); k_whole)); intro tk')
  k_with "OFFA" => (first | (refine' OffA.lt ?_; assumption) | (refine' OffA.cons ?zqc ?zqd; (case zqc => first | exact Or.inr (by k_cls) | exact Or.inl (by k_ne)); (case zqd => walk_at "OFFA")))
  k_with "WO" => (first | (refine' WO.here ?_; walk_at "OFFA") | (refine' WO.cons ?zqc ?zqd; (case zqc => first | exact Or.inr (by k_cls) | exact Or.inl (by k_ne)); (case zqd => walk_at "WO")))
  k_with "UnrEnd" => (refine' unr_end ?zqF ?zqN ?zqW ?_; (case zqF => k_asm); (case zqN => k_asm); (case zqW => walk_at "WO"))
  k_with "ENTER" => (refine' code_def ?zqk1 ?zqk2 ?zqk3 ?zqk4 ?zqk5 ?zqkA ?zqkF ?zqkK ?zqk6 ?zqk7 ?zqk8 ?zqk9 ?zqkB ?_ ?zqc2 ?zqc3 ?zqc4 ?zqc5; (case zqkA => exact rfl); (case zqkF => exact rfl); (case zqkK => assumption); (case zqk1 => k_asm); (case zqk2 => k_asm); (case zqk3 => k_asm); (case zqk4 => k_asm); (case zqk5 => k_asm); (case zqk6 => k_is); (case zqk7 => k_is); (case zqk8 => ktr_room); (case zqk9 => first | exact BindsTo.of_eq rfl | exact binds_K (by k_in) rfl (by k_is) rfl rfl rfl); (case zqc5 => decide); (case zqkB => exact locs rfl); (case zqc2 => exact rfl); (case zqc3 => exact rfl); (case zqc4 => exact rfl); k_whole; intro g' L' h' FG' F' N' B' X' T'; (try dsimp only); (try k_fold))
  k_with "call ref" => (k_here; k_dflt (refine' use_int (cut_sdH ?zqp0 ?zqp1 ?zqp2) ?zqk1 ?zqk2 ?zqk3 ?zqk4 ?zqk5 ?zqkK ?zqkd ?zqku ?_; (case zqk1 => k_asm); (case zqk2 => k_asm); (case zqk3 => k_asm); (case zqk4 => k_asm); (case zqk5 => k_asm); (case zqkK => first | exact rfl | assumption); (case zqp0 => k_get); (case zqp1 => k_get); (case zqp2 => k_get); (case zqkd => ktr_room); (case zqku => ktr_units); k_whole; intro t' h' tk' F' N'; (try k_sweep); (try dsimp only); (try k_fold)))
  intro mean mg mb dp un gd cn cs c ccd cl outer A₀ base h₀ L m s Q E B F X N T hk hd hu hret
  walk_at "WALK"
set_option maxHeartbeats 4000000 in
theorem cut_slope_lo {w : World} {news : List (Addr × Obj)}  {tp un bt r : Int} {t1 t2 t3 : Tok} (hc : ¬ 5 * tp > 2 * un) (H : SDH ((tp * (bt * 65536)).fdiv un) (bt * 65536) r) (hu : 0 < un) (ht : 0 ≤ tp) (hbt : 0 < bt) (z1 : Bt 100 tp) (z2 : Bt 100 un) (z3 : Bt 100 bt) : Cut w 184 2 news [.int tp t1, .int un t2, .int bt t3] (OInt r) := by
  unfold Cut
  k_fill
  k_with_none
  k_with "ktr_room" => (first | exact dp_le (by with_reducible assumption) (by decide) | exact dp_le0 (by with_reducible assumption) (by decide) | exact Nat.lt_of_le_of_lt (Nat.le_add_right _ _) (by with_reducible assumption) | fail "room")
  k_with "ktr_units" => (first | exact un_le (by with_reducible assumption) (by decide) | exact un_le0 (by with_reducible assumption) (by decide) | exact Nat.lt_of_le_of_lt (Nat.le_add_right _ _) (by with_reducible assumption) | fail "units")
  k_with "k_slotset" => (intro p hp; repeat (first | exact hp | refine List.mem_cons_of_mem _ ?_))
  k_with "k_put" => (first | with_reducible rfl | omega | assumption | (simp only [Int.mul_one, Int.one_mul]; done) | (simp only [signV]; (repeat' split) <;> first | with_reducible rfl | omega) | k_extra "EQ")
  k_with "bits_by_make" => (first | with_reducible assumption | ((with_reducible apply bits_fracT); bits_by_make) | ((with_reducible apply bits_fracB); bits_by_make) | exact PySem.intBits_le_64 (by decide) (by decide) | exact PySem.intBits_le_64 (by omega) (by omega) | exact bits_lit200 (by decide +kernel) | fail "bits")
  k_with "k_slotget" => (first | exact List.mem_cons_self | with_reducible assumption | (refine' List.mem_cons_of_mem _ ?_; k_slotget) | fail "mem")
  k_with "subscriptTail Name Constant ref int" => (k_here; k_dflt (refine' item_tupleT (News.isTup ?zqn ?zqm) ?zqa ?zqb ?zqc ?zqd ?_; (case zqn => k_asm); (case zqm => k_slotget); (case zqa => decide); (case zqb => decide); (case zqc => exact rfl); (case zqd => exact rfl); k_whole))
  k_with "execs cons" => (with_reducible refine gen_toks3 (fun tk' => ?_))
  k_with "execs nil" => (with_reducible refine gen_toks3 (fun tk' => ?_))
  k_with "eval Name" => (k_here; k_dflt (first   | (refine' ld ?zqk1 ?zqk2 ?_; (case zqk1 => k_asm); (case zqk2 => exact rfl); k_whole)   | (refine' name_K ?zqkF ?zqk1 ?zqk2 ?zqk3 ?_; (case zqkF => k_asm); (case zqk1 => k_asm); (case zqk2 => k_asm); (case zqk3 => k_is); k_whole)))
  k_with "k_get" => (first | with_reducible assumption | k_slotget | exact Nat.le_trans (by with_reducible assumption) (by decide) | k_extra "P" | decide | omega | (refine intBits_le_64 ?_ ?_ <;> omega) | (exact Nat.le_trans (by bits_by_make) (by decide)) | assumption)
  k_with "ktd_handed" => (first | with_reducible assumption | decide | omega | k_extra "NZ")
  k_with "binaryOp FloorDiv int int" => (k_here; (with_reducible refine floordiv_int ?zqkbe ?_ (Or.inl (PyProof.noPylong_of_log2 ?zqkbp))); (case zqkbe => ktd_handed); (case zqkbp => exact log_of_bits (by bits_by_make) (by decide)))
  k_with "binaryOp Mod int int" => (k_here; (with_reducible refine mod_int' ?zqkbe ?_); (case zqkbe => ktd_handed))
  k_with "binaryOp Mod int int" => (with_reducible refine' mod_int_v ?zqhb ?zqe ?_; (case zqe => with_reducible assumption); (case zqhb => ktd_handed))
  k_with "binaryOp Mod int int" => (k_extra "MYMOD")
  k_with "binaryOp Mult int int" => (k_here; k_dflt (refine' PyProof.Rows.mul_int ?_ ?zqhm; (case zqhm => exact PyProof.Rows.mulOk_of_bits (by bits_by_make) (by bits_by_make) (by decide))))
  k_with "binaryOp Pow int int" => (with_reducible refine' pow2_int ?zqh ?_; (case zqh => first | with_reducible assumption | omega))
  k_with "exec Raise some none" => (exfalso; first | contradiction | omega)
  k_with "END" => (first   | (refine' ret_int ?zqh ?zqe ?zqF ?zqN ?zqsub; (case zqh => assumption); (case zqF => k_asm); (case zqN => k_asm); (case zqsub => k_slotset); (case zqe => k_put))   | (refine' ret_bool ?zqh ?zqe ?zqF ?zqN ?zqsub; (case zqh => assumption); (case zqF => k_asm); (case zqN => k_asm); (case zqsub => k_slotset); (case zqe => k_put))   | (refine' ret_pair ?zqh ?zqhm ?zqex ?zqey ?zqF ?zqN ?zqsub; (case zqh => assumption); (case zqF => k_asm); (case zqN => k_asm); (case zqsub => k_slotset); (case zqhm => k_slotget); (case zqex => k_put); (case zqey => k_put))   | (refine' ret_turn ?zqh ?zqhb ?zqhc ?zqhd ?zqe0 ?zqe1 ?zqe2 ?zqe3 ?zqF ?zqN ?zqsub; (case zqh => assumption); (case zqF => k_asm); (case zqN => k_asm); (case zqsub => k_slotset); (case zqhb => k_slotget); (case zqhc => k_slotget); (case zqhd => k_slotget); (case zqe0 => k_put); (case zqe1 => k_put); (case zqe2 => k_put); (case zqe3 => k_put)))
  k_with "exec While Compare cons nil" => (k_extra "MYWHILE")
  k_with "KswEnd" => (k_extra "MYTURN")
  k_with "x_auto" => (first | with_reducible assumption | omega | k_extra "FACT" | fail "fact")
  k_with "ite" => (first   | (with_reducible refine' ine_t ?zqh ?_; (case zqh => x_auto))   | (with_reducible refine' ine_f ?zqh ?_; (case zqh => x_auto))   | (with_reducible refine' ieq_t ?zqh ?_; (case zqh => x_auto))   | (with_reducible refine' ieq_f ?zqh ?_; (case zqh => x_auto))   | (with_reducible refine' dec_t ?zqh ?_; (case zqh => x_auto))   | (with_reducible refine' dec_f ?zqh ?_; (case zqh => x_auto)))
  k_with "eval BinOp" => (k_here; k_dflt (refine' IV.use ?zqd ?_; (case zqd => tb_rel); k_whole); intro t' tk')
  k_with "eval Tuple" => (k_here; k_dflt (refine' tup2 ?zqda ?zqdb ?zqF ?zqN ?_; (case zqda => tb_rel); (case zqdb => tb_rel); (case zqF => k_asm); (case zqN => k_asm); k_whole); intro D' t' u' h' tk' F' N' l1; (try k_lt l1); (try k_sweep))
  k_with "eval UnaryOp" => (k_here; k_dflt (refine' IV.use ?zqd ?_; (case zqd => tb_rel); k_whole); intro t' tk')
  k_with "eval Subscript" => (k_here; k_dflt (refine' IV.use ?zqd ?_; (case zqd => tb_rel); k_whole); intro t' tk')
  k_with "exec If" => (k_here; k_dflt (first | (refine' if_f ?zqd ?_; (case zqd => tb_rel); k_whole) | (refine' if_t ?zqd ?_; (case zqd => tb_rel); k_whole)); intro tk')
  k_with "OFFA" => (first | (refine' OffA.lt ?_; assumption) | (refine' OffA.cons ?zqc ?zqd; (case zqc => first | exact Or.inr (by k_cls) | exact Or.inl (by k_ne)); (case zqd => walk_at "OFFA")))
  k_with "WO" => (first | (refine' WO.here ?_; walk_at "OFFA") | (refine' WO.cons ?zqc ?zqd; (case zqc => first | exact Or.inr (by k_cls) | exact Or.inl (by k_ne)); (case zqd => walk_at "WO")))
  k_with "UnrEnd" => (refine' unr_end ?zqF ?zqN ?zqW ?_; (case zqF => k_asm); (case zqN => k_asm); (case zqW => walk_at "WO"))
  k_with "ENTER" => (refine' code_def ?zqk1 ?zqk2 ?zqk3 ?zqk4 ?zqk5 ?zqkA ?zqkF ?zqkK ?zqk6 ?zqk7 ?zqk8 ?zqk9 ?zqkB ?_ ?zqc2 ?zqc3 ?zqc4 ?zqc5; (case zqkA => exact rfl); (case zqkF => exact rfl); (case zqkK => assumption); (case zqk1 => k_asm); (case zqk2 => k_asm); (case zqk3 => k_asm); (case zqk4 => k_asm); (case zqk5 => k_asm); (case zqk6 => k_is); (case zqk7 => k_is); (case zqk8 => ktr_room); (case zqk9 => first | exact BindsTo.of_eq rfl | exact binds_K (by k_in) rfl (by k_is) rfl rfl rfl); (case zqc5 => decide); (case zqkB => exact locs rfl); (case zqc2 => exact rfl); (case zqc3 => exact rfl); (case zqc4 => exact rfl); k_whole; intro g' L' h' FG' F' N' B' X' T'; (try dsimp only); (try k_fold))
  k_with "call ref" => (k_here; k_dflt (refine' use_int (cut_sdH ?zqp0 ?zqp1 ?zqp2) ?zqk1 ?zqk2 ?zqk3 ?zqk4 ?zqk5 ?zqkK ?zqkd ?zqku ?_; (case zqk1 => k_asm); (case zqk2 => k_asm); (case zqk3 => k_asm); (case zqk4 => k_asm); (case zqk5 => k_asm); (case zqkK => first | exact rfl | assumption); (case zqp0 => k_get); (case zqp1 => k_get); (case zqp2 => k_get); (case zqkd => ktr_room); (case zqku => ktr_units); k_whole; intro t' h' tk' F' N'; (try k_sweep); (try dsimp only); (try k_fold)))
  intro mean mg mb dp un gd cn cs c ccd cl outer A₀ base h₀ L m s Q E B F X N T hk hd hu hret
  walk_at "WALK"

theorem cut_slope {w : World} {news : List (Addr × Obj)} {tp un bt r : Int} {t1 t2 t3 : Tok} (H : SLH tp un (bt * 65536) r) (hu : 0 < un) (ht : 0 ≤ tp) (hbt : 0 < bt) (z1 : Bt 100 tp) (z2 : Bt 100 un) (z3 : Bt 100 bt) : Cut w 184 2 news [.int tp t1, .int un t2, .int bt t3] (OInt r) := by
  have h := H.h
  unfold slR at h
  split at h
  · rename_i hc
    cases hq : sdR (((un - tp) * (bt * 65536)).fdiv (un + tp)) (bt * 65536) with
    | none => rw [hq] at h; cases h
    | some q =>
      rw [hq] at h
      rw [← Option.some.inj h]
      exact cut_slope_hi hc ⟨hq⟩ hu ht hbt z1 z2 z3
  · exact cut_slope_lo (by assumption) ⟨h⟩ hu ht hbt z1 z2 z3
set_option maxHeartbeats 4000000 in
theorem cut_deg {w : World} {news : List (Addr × Obj)} {px : Addr} {x0 x1 : Int} {tx ux : Tok} (hx : (px, pairObj (.int x0 tx) (.int x1 ux)) ∈ news) {py : Addr} {y0 y1 : Int} {ty uy : Tok} (hy : (py, pairObj (.int y0 ty) (.int y1 uy)) ∈ news) {r T1 T2 f0 f1 g0 g1 : Int} (hA : (((y0.natAbs : Nat) : Int) * x1 ≤ ((x0.natAbs : Nat) : Int) * y1 ∧ SLH (((y0.natAbs : Nat) : Int) * x1) (((x0.natAbs : Nat) : Int) * y1) (65536 * 65536) r ∧ T1 = r) ∨ (¬ ((y0.natAbs : Nat) : Int) * x1 ≤ ((x0.natAbs : Nat) : Int) * y1 ∧ SLH (((x0.natAbs : Nat) : Int) * y1) (((y0.natAbs : Nat) : Int) * x1) (65536 * 65536) r ∧ T1 = 90 * (65536 * 65536) - r)) (hB : (x0 < 0 ∧ T2 = 180 * (65536 * 65536) - T1) ∨ (¬ x0 < 0 ∧ T2 = T1)) (hnz : Hid (¬ (((x0.natAbs : Nat) : Int) * y1 = 0 ∧ ((y0.natAbs : Nat) : Int) * x1 = 0))) (e1 : fracT (rdV T2 (65536 * 65536) 65536) 65536 = f0) (e2 : fracB (rdV T2 (65536 * 65536) 65536) 65536 = f1) (hC1 : Hid (y0 < 0 → f0 ≠ 0 → fracT (360 * f1 - f0 * 1) (1 * f1) = g0 ∧ fracB (360 * f1 - f0 * 1) (1 * f1) = g1)) (hC2 : Hid (¬ y0 < 0 → f0 = g0 ∧ f1 = g1)) (hC3 : Hid (f0 = 0 → f0 = g0 ∧ f1 = g1)) (hwd : 0 ≤ ((x0.natAbs : Nat) : Int) * y1) (hhi : 0 ≤ ((y0.natAbs : Nat) : Int) * x1) (hx1 : 0 < x1) (hy1 : 0 < y1) (z1 : Bt 40 x0) (z2 : Bt 40 x1) (z3 : Bt 40 y0) (z4 : Bt 40 y1) (zr : Bt 900 r) (zf : Bt 1000 f0) : Cut w 199 4 news [.ref px, .ref py] (OPair g0 g1) := by
  unfold Cut
  k_fill
  k_with_none
  k_with "ktr_room" => (first | exact dp_le (by with_reducible assumption) (by decide) | exact dp_le0 (by with_reducible assumption) (by decide) | exact Nat.lt_of_le_of_lt (Nat.le_add_right _ _) (by with_reducible assumption) | fail "room")
  k_with "ktr_units" => (first | exact un_le (by with_reducible assumption) (by decide) | exact un_le0 (by with_reducible assumption) (by decide) | exact Nat.lt_of_le_of_lt (Nat.le_add_right _ _) (by with_reducible assumption) | fail "units")
  k_with "k_slotset" => (intro p hp; repeat (first | exact hp | refine List.mem_cons_of_mem _ ?_))
  k_with "k_put" => (first | with_reducible rfl | omega | assumption | (simp only [Int.mul_one, Int.one_mul]; done) | (simp only [signV]; (repeat' split) <;> first | with_reducible rfl | omega) | k_extra "EQ")
  k_with "bits_by_make" => (first | with_reducible assumption | ((with_reducible apply bits_fracT); bits_by_make) | ((with_reducible apply bits_fracB); bits_by_make) | exact PySem.intBits_le_64 (by decide) (by decide) | exact PySem.intBits_le_64 (by omega) (by omega) | exact bits_lit200 (by decide +kernel) | fail "bits")
  k_with "k_slotget" => (first | exact List.mem_cons_self | with_reducible assumption | (refine' List.mem_cons_of_mem _ ?_; k_slotget) | fail "mem")
  k_with "subscriptTail Name Constant ref int" => (k_here; k_dflt (refine' item_tupleT (News.isTup ?zqn ?zqm) ?zqa ?zqb ?zqc ?zqd ?_; (case zqn => k_asm); (case zqm => k_slotget); (case zqa => decide); (case zqb => decide); (case zqc => exact rfl); (case zqd => exact rfl); k_whole))
  k_with "execs cons" => (with_reducible refine gen_toks3 (fun tk' => ?_))
  k_with "execs nil" => (with_reducible refine gen_toks3 (fun tk' => ?_))
  k_with "eval Name" => (k_here; k_dflt (first   | (refine' ld ?zqk1 ?zqk2 ?_; (case zqk1 => k_asm); (case zqk2 => exact rfl); k_whole)   | (refine' name_K ?zqkF ?zqk1 ?zqk2 ?zqk3 ?_; (case zqkF => k_asm); (case zqk1 => k_asm); (case zqk2 => k_asm); (case zqk3 => k_is); k_whole)))
  k_with "k_get" => (first | with_reducible assumption | k_slotget | exact Nat.le_trans (by with_reducible assumption) (by decide) | k_extra "P" | decide | omega | (refine intBits_le_64 ?_ ?_ <;> omega) | (exact Nat.le_trans (by bits_by_make) (by decide)) | assumption)
  k_with "ktd_handed" => (first | with_reducible assumption | decide | omega | k_extra "NZ")
  k_with "binaryOp FloorDiv int int" => (k_here; (with_reducible refine floordiv_int ?zqkbe ?_ (Or.inl (PyProof.noPylong_of_log2 ?zqkbp))); (case zqkbe => ktd_handed); (case zqkbp => exact log_of_bits (by bits_by_make) (by decide)))
  k_with "binaryOp Mod int int" => (k_here; (with_reducible refine mod_int' ?zqkbe ?_); (case zqkbe => ktd_handed))
  k_with "binaryOp Mod int int" => (with_reducible refine' mod_int_v ?zqhb ?zqe ?_; (case zqe => with_reducible assumption); (case zqhb => ktd_handed))
  k_with "binaryOp Mod int int" => (k_extra "MYMOD")
  k_with "binaryOp Mult int int" => (k_here; k_dflt (refine' PyProof.Rows.mul_int ?_ ?zqhm; (case zqhm => exact PyProof.Rows.mulOk_of_bits (by bits_by_make) (by bits_by_make) (by decide))))
  k_with "binaryOp Pow int int" => (with_reducible refine' pow2_int ?zqh ?_; (case zqh => first | with_reducible assumption | omega))
  k_with "exec Raise some none" => (exfalso; first | contradiction | omega)
  k_with "END" => (first   | (refine' ret_int ?zqh ?zqe ?zqF ?zqN ?zqsub; (case zqh => assumption); (case zqF => k_asm); (case zqN => k_asm); (case zqsub => k_slotset); (case zqe => k_put))   | (refine' ret_bool ?zqh ?zqe ?zqF ?zqN ?zqsub; (case zqh => assumption); (case zqF => k_asm); (case zqN => k_asm); (case zqsub => k_slotset); (case zqe => k_put))   | (refine' ret_pair ?zqh ?zqhm ?zqex ?zqey ?zqF ?zqN ?zqsub; (case zqh => assumption); (case zqF => k_asm); (case zqN => k_asm); (case zqsub => k_slotset); (case zqhm => k_slotget); (case zqex => k_put); (case zqey => k_put))   | (refine' ret_turn ?zqh ?zqhb ?zqhc ?zqhd ?zqe0 ?zqe1 ?zqe2 ?zqe3 ?zqF ?zqN ?zqsub; (case zqh => assumption); (case zqF => k_asm); (case zqN => k_asm); (case zqsub => k_slotset); (case zqhb => k_slotget); (case zqhc => k_slotget); (case zqhd => k_slotget); (case zqe0 => k_put); (case zqe1 => k_put); (case zqe2 => k_put); (case zqe3 => k_put)))
  k_with "exec While Compare cons nil" => (k_extra "MYWHILE")
  k_with "KswEnd" => (k_extra "MYTURN")
  k_with "x_auto" => (first | with_reducible assumption | omega | k_extra "FACT" | fail "fact")
  k_with "ite" => (first   | (with_reducible refine' ine_t ?zqh ?_; (case zqh => x_auto))   | (with_reducible refine' ine_f ?zqh ?_; (case zqh => x_auto))   | (with_reducible refine' ieq_t ?zqh ?_; (case zqh => x_auto))   | (with_reducible refine' ieq_f ?zqh ?_; (case zqh => x_auto))   | (with_reducible refine' dec_t ?zqh ?_; (case zqh => x_auto))   | (with_reducible refine' dec_f ?zqh ?_; (case zqh => x_auto)))
  k_with "eval BinOp" => (k_here; k_dflt (refine' IV.use ?zqd ?_; (case zqd => tb_rel); k_whole); intro t' tk')
  k_with "eval Tuple" => (k_here; k_dflt (refine' tup2 ?zqda ?zqdb ?zqF ?zqN ?_; (case zqda => tb_rel); (case zqdb => tb_rel); (case zqF => k_asm); (case zqN => k_asm); k_whole); intro D' t' u' h' tk' F' N' l1; (try k_lt l1); (try k_sweep))
  k_with "eval UnaryOp" => (k_here; k_dflt (refine' IV.use ?zqd ?_; (case zqd => tb_rel); k_whole); intro t' tk')
  k_with "eval Subscript" => (k_here; k_dflt (refine' IV.use ?zqd ?_; (case zqd => tb_rel); k_whole); intro t' tk')
  k_with "exec If" => (k_here; k_dflt (first | (refine' if_f ?zqd ?_; (case zqd => tb_rel); k_whole) | (refine' if_t ?zqd ?_; (case zqd => tb_rel); k_whole)); intro tk')
  k_with "OFFA" => (first | (refine' OffA.lt ?_; assumption) | (refine' OffA.cons ?zqc ?zqd; (case zqc => first | exact Or.inr (by k_cls) | exact Or.inl (by k_ne)); (case zqd => walk_at "OFFA")))
  k_with "WO" => (first | (refine' WO.here ?_; walk_at "OFFA") | (refine' WO.cons ?zqc ?zqd; (case zqc => first | exact Or.inr (by k_cls) | exact Or.inl (by k_ne)); (case zqd => walk_at "WO")))
  k_with "UnrEnd" => (refine' unr_end ?zqF ?zqN ?zqW ?_; (case zqF => k_asm); (case zqN => k_asm); (case zqW => walk_at "WO"))
  k_with "ENTER" => (refine' code_def ?zqk1 ?zqk2 ?zqk3 ?zqk4 ?zqk5 ?zqkA ?zqkF ?zqkK ?zqk6 ?zqk7 ?zqk8 ?zqk9 ?zqkB ?_ ?zqc2 ?zqc3 ?zqc4 ?zqc5; (case zqkA => exact rfl); (case zqkF => exact rfl); (case zqkK => assumption); (case zqk1 => k_asm); (case zqk2 => k_asm); (case zqk3 => k_asm); (case zqk4 => k_asm); (case zqk5 => k_asm); (case zqk6 => k_is); (case zqk7 => k_is); (case zqk8 => ktr_room); (case zqk9 => first | exact BindsTo.of_eq rfl | exact binds_K (by k_in) rfl (by k_is) rfl rfl rfl); (case zqc5 => decide); (case zqkB => exact locs rfl); (case zqc2 => exact rfl); (case zqc3 => exact rfl); (case zqc4 => exact rfl); k_whole; intro g' L' h' FG' F' N' B' X' T'; (try dsimp only); (try k_fold))
  k_with "call ref" => (k_here; k_dflt (refine' use_int (cut_sdH ?zqp0 ?zqp1 ?zqp2) ?zqk1 ?zqk2 ?zqk3 ?zqk4 ?zqk5 ?zqkK ?zqkd ?zqku ?_; (case zqk1 => k_asm); (case zqk2 => k_asm); (case zqk3 => k_asm); (case zqk4 => k_asm); (case zqk5 => k_asm); (case zqkK => first | exact rfl | assumption); (case zqp0 => k_get); (case zqp1 => k_get); (case zqp2 => k_get); (case zqkd => ktr_room); (case zqku => ktr_units); k_whole; intro t' h' tk' F' N'; (try k_sweep); (try dsimp only); (try k_fold)))
  k_with "call ref" => (k_here; k_dflt (refine' use_pair (cut_absolute ?zqp0) ?zqk1 ?zqk2 ?zqk3 ?zqk4 ?zqk5 ?zqkK ?zqkd ?zqku ?_; (case zqk1 => k_asm); (case zqk2 => k_asm); (case zqk3 => k_asm); (case zqk4 => k_asm); (case zqk5 => k_asm); (case zqkK => first | exact rfl | assumption); (case zqp0 => k_get); (case zqkd => ktr_room); (case zqku => ktr_units); k_whole; intro a' t' u' h' tk' F' N'; (try k_sweep); (try dsimp only); (try k_fold)))
  k_with "call ref" => (k_here; k_dflt (refine' use_int (cut_slope ?zqp0 ?zqp1 ?zqp2 ?zqp3 ?zqp4 ?zqp5 ?zqp6) ?zqk1 ?zqk2 ?zqk3 ?zqk4 ?zqk5 ?zqkK ?zqkd ?zqku ?_; (case zqk1 => k_asm); (case zqk2 => k_asm); (case zqk3 => k_asm); (case zqk4 => k_asm); (case zqk5 => k_asm); (case zqkK => first | exact rfl | assumption); (case zqp0 => k_get); (case zqp1 => k_get); (case zqp2 => k_get); (case zqp3 => k_get); (case zqp4 => k_get); (case zqp5 => k_get); (case zqp6 => k_get); (case zqkd => ktr_room); (case zqku => ktr_units); k_whole; intro t' h' tk' F' N'; (try k_sweep); (try dsimp only); (try k_fold)))
  k_with "call ref" => (k_here; k_dflt (refine' use_pair (cut_nearE ?zqp0 ?zqp1 ?zqp2 ?zqp3 ?zqp4 ?zqp5 ?zqp6) ?zqk1 ?zqk2 ?zqk3 ?zqk4 ?zqk5 ?zqkK ?zqkd ?zqku ?_; (case zqk1 => k_asm); (case zqk2 => k_asm); (case zqk3 => k_asm); (case zqk4 => k_asm); (case zqk5 => k_asm); (case zqkK => first | exact rfl | assumption); (case zqp0 => k_get); (case zqp1 => k_get); (case zqp2 => k_get); (case zqp3 => k_get); (case zqp4 => k_get); (case zqp5 => k_get); (case zqp6 => k_get); (case zqkd => ktr_room); (case zqku => ktr_units); k_whole; intro a' t' u' h' tk' F' N'; (try k_sweep); (try dsimp only); (try k_fold)))
  k_with "call ref" => (k_here; k_dflt (refine' use_pair (cut_minusE ?zqp0 ?zqp1 ?zqp2 ?zqp3 ?zqp4 ?zqp5 ?zqp6 ?zqp7 ?zqp8) ?zqk1 ?zqk2 ?zqk3 ?zqk4 ?zqk5 ?zqkK ?zqkd ?zqku ?_; (case zqk1 => k_asm); (case zqk2 => k_asm); (case zqk3 => k_asm); (case zqk4 => k_asm); (case zqk5 => k_asm); (case zqkK => first | exact rfl | assumption); (case zqp0 => k_get); (case zqp1 => k_get); (case zqp2 => k_get); (case zqp3 => k_get); (case zqp4 => k_get); (case zqp5 => k_get); (case zqp6 => k_get); (case zqp7 => k_get); (case zqp8 => k_get); (case zqkd => ktr_room); (case zqku => ktr_units); k_whole; intro a' t' u' h' tk' F' N'; (try k_sweep); (try dsimp only); (try k_fold)))
  k_with "exec If" => (k_here; k_dflt k_extra "MYIF")
  k_with "JP" => (refine' jp_int ?zqF ?zqN ?zqhm ?zqe ?zqsub; (case zqF => k_asm); (case zqN => k_asm); (case zqhm => first | exact rfl | exact upd_same rfl); (case zqe => first | rfl | with_reducible assumption | exact Eq.symm (by with_reducible assumption) | fail "e"); (case zqsub => k_slotset))
  intro mean mg mb dp un gd cn cs c ccd cl outer A₀ base h₀ L m s Q E B F X N T hk hd hu hret
  have z5 : Bt 920 T1 := by rcases hA with ⟨_, _, rfl⟩ | ⟨_, _, rfl⟩ <;> exact Nat.le_trans (by bits_by_make) (by decide)
  have z6 : Bt 940 T2 := by rcases hB with ⟨_, rfl⟩ | ⟨_, rfl⟩ <;> exact Nat.le_trans (by bits_by_make) (by decide)
  have q1 : Bt 1000 f1 := by rw [← e2]; exact Nat.le_trans (by bits_by_make) (by decide)
  have q2 : f1 ≠ 0 := by rw [← e2]; exact fracB_ne (by decide)
  have q3 : 1 * f1 ≠ 0 := by omega
  have hnw : Hid (((x0.natAbs : Nat) : Int) * y1 ≠ 0 ∨ (((x0.natAbs : Nat) : Int) * y1 = 0 ∧ ((y0.natAbs : Nat) : Int) * x1 ≠ 0)) := by
    by_cases h : ((x0.natAbs : Nat) : Int) * y1 = 0
    · exact .inr ⟨h, fun e => Hid.out hnz ⟨h, e⟩⟩
    · exact .inl h
  clear hnz
  have hA : (((y0.natAbs : Nat) : Int) * x1 ≤ ((x0.natAbs : Nat) : Int) * y1 ∧ SLH (((y0.natAbs : Nat) : Int) * x1) (((x0.natAbs : Nat) : Int) * y1) (65536 * 65536) r ∧ T1 = r ∧ 0 < ((x0.natAbs : Nat) : Int) * y1) ∨ (¬ ((y0.natAbs : Nat) : Int) * x1 ≤ ((x0.natAbs : Nat) : Int) * y1 ∧ SLH (((x0.natAbs : Nat) : Int) * y1) (((y0.natAbs : Nat) : Int) * x1) (65536 * 65536) r ∧ T1 = 90 * (65536 * 65536) - r ∧ 0 < ((y0.natAbs : Nat) : Int) * x1) := by
    rcases hA with ⟨a, b, c⟩ | ⟨a, b, c⟩
    · exact .inl ⟨a, b, c, by clear hB hC1 hC2 hC3 e1 e2; rcases Hid.out hnw with h | ⟨h, h'⟩ <;> omega⟩
    · exact .inr ⟨a, b, c, by clear hB hC1 hC2 hC3 e1 e2; omega⟩
  k_with "MYIF" => (
    with_reducible show wpAny _ _ (exec (Stmt.If (Expr.BoolOp BoolOp.And _ _) _ _ _) _) _ _ _
    refine' if_f ?zf ?_
    (case zf => (rcases Hid.out hnw with hw | ⟨hw, hh⟩ <;> tb_rel))
    clear hnw
    intro tk')
  k_with "P" => first | exact (Hid.out hC1 (by assumption) (by assumption)).1 | exact (Hid.out hC1 (by assumption) (by assumption)).2
  k_with "EQ" => first | exact (Hid.out hC1 (by assumption) (by assumption)).1 | exact (Hid.out hC1 (by assumption) (by assumption)).2 | exact (Hid.out hC2 (by assumption)).1 | exact (Hid.out hC2 (by assumption)).2 | exact (Hid.out hC3 (by assumption)).1 | exact (Hid.out hC3 (by assumption)).2
  k_with "MYIF" => (
    with_reducible show wpAny _ _ (exec (Stmt.If (Expr.Compare _ [CmpOp.LtE] _ _) _ _ _) _) _ _ _
    rename Fr _ _ _ _ => lF'
    refine if_int (k := PySem.Str.ofString "told") (T := T1) news lF' ?_ ?_
    clear hB hC1 hC2 hC3
    rcases hA with ⟨p0, p1, p2, p3⟩ | ⟨p0, p1, p2, p3⟩
    refine' if_t ?zd ?_
    (case zd => tb_rel)
    intro tk'
    rotate_left
    refine' if_f ?ze ?_
    (case ze => tb_rel)
    intro tk'
    rotate_left
    clear hA
    intro t' h' tk' F' N'
    clear lF'
    try dsimp only
    try k_sweep
    try k_fold)
  k_with "MYIF" => (
    with_reducible show wpAny _ _ (exec (Stmt.If (Expr.Compare _ [CmpOp.Lt] _ _) _ _ _) _) _ _ _
    rename Fr _ _ _ _ => lF'
    refine if_int (k := PySem.Str.ofString "told") (T := T2) news lF' ?_ ?_
    clear hC1 hC2 hC3
    rcases hB with ⟨p0, p2⟩ | ⟨p0, p2⟩
    refine' if_t ?zd ?_
    (case zd => tb_rel)
    intro tk'
    rotate_left
    refine' if_f ?ze ?_
    (case ze => tb_rel)
    intro tk'
    rotate_left
    clear hB
    intro t' h' tk' F' N'
    clear lF'
    try dsimp only
    try k_sweep
    try k_fold)
  walk_at "WALK"
end
section
theorem item_listN {prog : Program} {w : World} {A : Around} {E : Value → Shared → Prop} {s : Shared} {value slice : PySem.Expr} {h₀ : Heap} {L l : Addr} {news : List (Addr × Obj)} {vs : List Value} {n : Nat} {k : Int} {u : Tok} {v : Value} {Q : Value → Shared → Prop}
    (N : News h₀ L s.heap news) (hm : (l, ({ cls := .type "list", data := .seq vs.toArray n } : Obj)) ∈ news) (h0 : 0 ≤ k) (hhi : k < 2 ^ 63) (hx : vs[k.toNat]? = some v) (h : Q v s)
    (hs : subscripted slice false (.ref l) (.int k u) = operate [.ref l, .int k u] (getItem (.ref l) (.int k u)) := by with_unfolding_all rfl) :
    wpAny (model prog w) A (subscriptTail value slice (.ref l) (.int k u)) Q E s :=
  have hl := News.isList N hm
  tail_any hl.typeIs slot_list_getitem.lookup (wpAny_getItem_list hl h0 hhi (by simpa using hx) h) hs
theorem reads_pair {h₀ h : Heap} {L a : Addr} {news : List (Addr × Obj)} {v u : Value} {dv du : PyData} (N : News h₀ L h news) (ha : (a, pairObj v u) ∈ news) (hv : Reads h v dv []) (hu : Reads h u du []) : Reads h (.ref a) (.tuple [dv, du]) [] :=
  reads_tuple_at (N.get ha) rfl rfl (ReadsAll.cons hv (ReadsAll.cons hu ReadsAll.nil))
theorem reads_turn {h₀ h : Heap} {L a c d : Addr} {news : List (Addr × Obj)} {c0 c1 s0 s1 : Int} {t u v z : Tok} (N : News h₀ L h news) (ha : (a, pairObj (.ref c) (.ref d)) ∈ news) (hc : (c, pairObj (.int c0 t) (.int c1 u)) ∈ news) (hd : (d, pairObj (.int s0 v) (.int s1 z)) ∈ news) :
    Reads h (.ref a) (.tuple [.tuple [.int c0, .int c1], .tuple [.int s0, .int s1]]) [] :=
  reads_pair N ha (reads_pair N hc (.int _ _) (.int _ _)) (reads_pair N hd (.int _ _) (.int _ _))
section
variable {prog : Program} {w : World} {A : Around} {E : Value → Shared → Prop} {s : Shared} {h₀ : Heap} {L a c d a' c' d' : Addr} {news : List (Addr × Obj)} {c0 c1 s0 s1 c0' c1' s0' s1' : Int} {t u v z t' u' v' z' : Tok} {Q : Value → Shared → Prop}
theorem cmp_turn_ne (N : News h₀ L s.heap news) (ha : (a, pairObj (.ref c) (.ref d)) ∈ news) (hc : (c, pairObj (.int c0 t) (.int c1 u)) ∈ news) (hd : (d, pairObj (.int s0 v) (.int s1 z)) ∈ news)
    (ha' : (a', pairObj (.ref c') (.ref d')) ∈ news) (hc' : (c', pairObj (.int c0' t') (.int c1' u')) ∈ news) (hd' : (d', pairObj (.int s0' v') (.int s1' z')) ∈ news)
    (e0 : c0 = c0') (e1 : c1 = c1') (e2 : s0 = s0') (e3 : s1 = s1') (hu : A.units + 64 < cLine) (h : Q (.bool false) s) : wpAny (model prog w) A (compareOp .NotEq (.ref a) (.ref a')) Q E s := by
  subst e0; subst e1; subst e2; subst e3
  refine ne_dataH (reads_turn N ha hc hd) (reads_turn N ha' hc' hd') rfl rfl hu ?_
  simpa [PyData.eqv, PyData.eqvAll] using h
theorem cmp_turn_eq (N : News h₀ L s.heap news) (ha : (a, pairObj (.ref c) (.ref d)) ∈ news) (hc : (c, pairObj (.int c0 t) (.int c1 u)) ∈ news) (hd : (d, pairObj (.int s0 v) (.int s1 z)) ∈ news)
    (ha' : (a', pairObj (.ref c') (.ref d')) ∈ news) (hc' : (c', pairObj (.int c0' t') (.int c1' u')) ∈ news) (hd' : (d', pairObj (.int s0' v') (.int s1' z')) ∈ news)
    (e0 : c0 = c0') (e1 : c1 = c1') (e2 : s0 = s0') (e3 : s1 = s1') (hu : A.units + 64 < cLine) (h : Q (.bool true) s) : wpAny (model prog w) A (compareOp .Eq (.ref a) (.ref a')) Q E s := by
  subst e0; subst e1; subst e2; subst e3
  refine eq_dataH (reads_turn N ha hc hd) (reads_turn N ha' hc' hd') rfl rfl hu ?_
  simpa [PyData.eqv, PyData.eqvAll] using h
theorem cmp_pair_eq (N : News h₀ L s.heap news) (hc : (c, pairObj (.int c0 t) (.int c1 u)) ∈ news) (hc' : (c', pairObj (.int c0' t') (.int c1' u')) ∈ news)
    (e0 : c0 = c0') (e1 : c1 = c1') (hu : A.units + 64 < cLine) (h : Q (.bool true) s) : wpAny (model prog w) A (compareOp .Eq (.ref c) (.ref c')) Q E s := by
  subst e0; subst e1
  refine eq_dataH (reads_pair N hc (.int _ _) (.int _ _)) (reads_pair N hc' (.int _ _) (.int _ _)) rfl rfl hu ?_
  simpa [PyData.eqv, PyData.eqvAll] using h
end
set_option maxHeartbeats 4000000 in
theorem cut_apart {w : World} {news : List (Addr × Obj)} {pa : Addr} {a0 a1 : Int} {ta ua : Tok} (ha : (pa, pairObj (.int a0 ta) (.int a1 ua)) ∈ news) {pb : Addr} {b0 b1 : Int} {tb ub : Tok} (hb : (pb, pairObj (.int b0 tb) (.int b1 ub)) ∈ news) (sa0 : Bt 2000 a0) (sa1 : Bt 2000 a1) (sb0 : Bt 2000 b0) (sb1 : Bt 2000 b1) : Cut w 227 1 news [.ref pa, .ref pb] (OPair ((a0 * b1 - b0 * a1).natAbs) (a1 * b1)) := by
  w_top off
  unfold Cut
  k_fill
  k_with_none
  k_with "ktr_room" => (first | exact dp_le (by with_reducible assumption) (by decide) | exact dp_le0 (by with_reducible assumption) (by decide) | exact Nat.lt_of_le_of_lt (Nat.le_add_right _ _) (by with_reducible assumption) | fail "room")
  k_with "ktr_units" => (first | exact un_le (by with_reducible assumption) (by decide) | exact un_le0 (by with_reducible assumption) (by decide) | exact Nat.lt_of_le_of_lt (Nat.le_add_right _ _) (by with_reducible assumption) | fail "units")
  k_with "k_slotset" => (intro p hp; repeat (first | exact hp | refine List.mem_cons_of_mem _ ?_))
  k_with "k_put" => (first | with_reducible rfl | omega | assumption | (simp only [Int.mul_one, Int.one_mul]; done) | (simp only [signV]; (repeat' split) <;> first | with_reducible rfl | omega) | k_extra "EQ")
  k_with "bits_by_make" => (first | with_reducible assumption | ((with_reducible apply bits_fracT); bits_by_make) | ((with_reducible apply bits_fracB); bits_by_make) | exact PySem.intBits_le_64 (by decide) (by decide) | exact PySem.intBits_le_64 (by omega) (by omega) | exact bits_lit200 (by decide +kernel) | fail "bits")
  k_with "k_slotget" => (first | exact List.mem_cons_self | with_reducible assumption | (refine' List.mem_cons_of_mem _ ?_; k_slotget) | fail "mem")
  k_with "subscriptTail Name Constant ref int" => (k_here; k_dflt (refine' item_tupleT (News.isTup ?zqn ?zqm) ?zqa ?zqb ?zqc ?zqd ?_; (case zqn => k_asm); (case zqm => k_slotget); (case zqa => decide); (case zqb => decide); (case zqc => exact rfl); (case zqd => exact rfl); k_whole))
  k_with "execs cons" => (with_reducible refine gen_toks3 (fun tk' => ?_))
  k_with "execs nil" => (with_reducible refine gen_toks3 (fun tk' => ?_))
  k_with "eval Name" => (k_here; k_dflt (first   | (refine' ld ?zqk1 ?zqk2 ?_; (case zqk1 => k_asm); (case zqk2 => exact rfl); k_whole)   | (refine' name_K ?zqkF ?zqk1 ?zqk2 ?zqk3 ?_; (case zqkF => k_asm); (case zqk1 => k_asm); (case zqk2 => k_asm); (case zqk3 => k_is); k_whole)))
  k_with "k_get" => (first | with_reducible assumption | k_slotget | exact Nat.le_trans (by with_reducible assumption) (by decide) | k_extra "P" | decide | omega | (refine intBits_le_64 ?_ ?_ <;> omega) | (exact Nat.le_trans (by bits_by_make) (by decide)) | assumption)
  k_with "ktd_handed" => (first | with_reducible assumption | decide | omega | k_extra "NZ")
  k_with "binaryOp FloorDiv int int" => (k_here; (with_reducible refine floordiv_int ?zqkbe ?_ (Or.inl (PyProof.noPylong_of_log2 ?zqkbp))); (case zqkbe => ktd_handed); (case zqkbp => exact log_of_bits (by bits_by_make) (by decide)))
  k_with "binaryOp Mod int int" => (k_here; (with_reducible refine mod_int' ?zqkbe ?_); (case zqkbe => ktd_handed))
  k_with "binaryOp Mod int int" => (with_reducible refine' mod_int_v ?zqhb ?zqe ?_; (case zqe => with_reducible assumption); (case zqhb => ktd_handed))
  k_with "binaryOp Mod int int" => (k_extra "MYMOD")
  k_with "binaryOp Mult int int" => (k_here; k_dflt (refine' PyProof.Rows.mul_int ?_ ?zqhm; (case zqhm => exact PyProof.Rows.mulOk_of_bits (by bits_by_make) (by bits_by_make) (by decide))))
  k_with "binaryOp Pow int int" => (with_reducible refine' pow2_int ?zqh ?_; (case zqh => first | with_reducible assumption | omega))
  k_with "exec Raise some none" => (exfalso; first | contradiction | omega)
  k_with "END" => (first   | (refine' ret_int ?zqh ?zqe ?zqF ?zqN ?zqsub; (case zqh => assumption); (case zqF => k_asm); (case zqN => k_asm); (case zqsub => k_slotset); (case zqe => k_put))   | (refine' ret_bool ?zqh ?zqe ?zqF ?zqN ?zqsub; (case zqh => assumption); (case zqF => k_asm); (case zqN => k_asm); (case zqsub => k_slotset); (case zqe => k_put))   | (refine' ret_pair ?zqh ?zqhm ?zqex ?zqey ?zqF ?zqN ?zqsub; (case zqh => assumption); (case zqF => k_asm); (case zqN => k_asm); (case zqsub => k_slotset); (case zqhm => k_slotget); (case zqex => k_put); (case zqey => k_put))   | (refine' ret_turn ?zqh ?zqhb ?zqhc ?zqhd ?zqe0 ?zqe1 ?zqe2 ?zqe3 ?zqF ?zqN ?zqsub; (case zqh => assumption); (case zqF => k_asm); (case zqN => k_asm); (case zqsub => k_slotset); (case zqhb => k_slotget); (case zqhc => k_slotget); (case zqhd => k_slotget); (case zqe0 => k_put); (case zqe1 => k_put); (case zqe2 => k_put); (case zqe3 => k_put)))
  k_with "exec While Compare cons nil" => (k_extra "MYWHILE")
  k_with "KswEnd" => (k_extra "MYTURN")
  k_with "x_auto" => (first | with_reducible assumption | omega | k_extra "FACT" | fail "fact")
  k_with "ite" => (first   | (with_reducible refine' ine_t ?zqh ?_; (case zqh => x_auto))   | (with_reducible refine' ine_f ?zqh ?_; (case zqh => x_auto))   | (with_reducible refine' ieq_t ?zqh ?_; (case zqh => x_auto))   | (with_reducible refine' ieq_f ?zqh ?_; (case zqh => x_auto))   | (with_reducible refine' dec_t ?zqh ?_; (case zqh => x_auto))   | (with_reducible refine' dec_f ?zqh ?_; (case zqh => x_auto)))
  k_with "eval BinOp" => (k_here; k_dflt (refine' IV.use ?zqd ?_; (case zqd => tb_rel); k_whole); intro t' tk')
  k_with "eval Tuple" => (k_here; k_dflt (refine' tup2 ?zqda ?zqdb ?zqF ?zqN ?_; (case zqda => tb_rel); (case zqdb => tb_rel); (case zqF => k_asm); (case zqN => k_asm); k_whole); intro D' t' u' h' tk' F' N' l1; (try k_lt l1); (try k_sweep))
  k_with "eval UnaryOp" => (k_here; k_dflt (refine' IV.use ?zqd ?_; (case zqd => tb_rel); k_whole); intro t' tk')
  k_with "eval Subscript" => (k_here; k_dflt (refine' IV.use ?zqd ?_; (case zqd => tb_rel); k_whole); intro t' tk')
  k_with "exec If" => (k_here; k_dflt (first | (refine' if_f ?zqd ?_; (case zqd => tb_rel); k_whole) | (refine' if_t ?zqd ?_; (case zqd => tb_rel); k_whole)); intro tk')
  k_with "OFFA" => (first | (refine' OffA.lt ?_; assumption) | (refine' OffA.cons ?zqc ?zqd; (case zqc => first | exact Or.inr (by k_cls) | exact Or.inl (by k_ne)); (case zqd => walk_at "OFFA")))
  k_with "WO" => (first | (refine' WO.here ?_; walk_at "OFFA") | (refine' WO.cons ?zqc ?zqd; (case zqc => first | exact Or.inr (by k_cls) | exact Or.inl (by k_ne)); (case zqd => walk_at "WO")))
  k_with "UnrEnd" => (refine' unr_end ?zqF ?zqN ?zqW ?_; (case zqF => k_asm); (case zqN => k_asm); (case zqW => walk_at "WO"))
  k_with "ENTER" => (refine' code_def ?zqk1 ?zqk2 ?zqk3 ?zqk4 ?zqk5 ?zqkA ?zqkF ?zqkK ?zqk6 ?zqk7 ?zqk8 ?zqk9 ?zqkB ?_ ?zqc2 ?zqc3 ?zqc4 ?zqc5; (case zqkA => exact rfl); (case zqkF => exact rfl); (case zqkK => assumption); (case zqk1 => k_asm); (case zqk2 => k_asm); (case zqk3 => k_asm); (case zqk4 => k_asm); (case zqk5 => k_asm); (case zqk6 => k_is); (case zqk7 => k_is); (case zqk8 => ktr_room); (case zqk9 => first | exact BindsTo.of_eq rfl | exact binds_K (by k_in) rfl (by k_is) rfl rfl rfl); (case zqc5 => decide); (case zqkB => exact locs rfl); (case zqc2 => exact rfl); (case zqc3 => exact rfl); (case zqc4 => exact rfl); k_whole; intro g' L' h' FG' F' N' B' X' T'; (try dsimp only); (try k_fold))
  intro mean mg mb dp un gd cn cs c ccd cl outer A₀ base h₀ L m s Q E B F X N T hk hd hu hret
  walk_at "WALK"
set_option maxHeartbeats 4000000 in
theorem cut_is_near {w : World} {news : List (Addr × Obj)} {pa : Addr} {a0 a1 : Int} {ta ua : Tok} (ha : (pa, pairObj (.int a0 ta) (.int a1 ua)) ∈ news) {pb : Addr} {b0 b1 : Int} {tb ub : Tok} (hb : (pb, pairObj (.int b0 tb) (.int b1 ub)) ∈ news) {pr bt : Int} {t1 t2 : Tok} (h : (((a0 * b1 - b0 * a1).natAbs : Nat) : Int) * bt ≤ pr * (a1 * b1)) (sa0 : Bt 2000 a0) (sa1 : Bt 2000 a1) (sb0 : Bt 2000 b0) (sb1 : Bt 2000 b1) (sp : Bt 2000 pr) (sb : Bt 2000 bt) : Cut w 234 2 news [.ref pa, .ref pb, .int pr t1, .int bt t2] (OBool true) := by
  unfold Cut
  k_fill
  k_with_none
  k_with "ktr_room" => (first | exact dp_le (by with_reducible assumption) (by decide) | exact dp_le0 (by with_reducible assumption) (by decide) | exact Nat.lt_of_le_of_lt (Nat.le_add_right _ _) (by with_reducible assumption) | fail "room")
  k_with "ktr_units" => (first | exact un_le (by with_reducible assumption) (by decide) | exact un_le0 (by with_reducible assumption) (by decide) | exact Nat.lt_of_le_of_lt (Nat.le_add_right _ _) (by with_reducible assumption) | fail "units")
  k_with "k_slotset" => (intro p hp; repeat (first | exact hp | refine List.mem_cons_of_mem _ ?_))
  k_with "k_put" => (first | with_reducible rfl | omega | assumption | (simp only [Int.mul_one, Int.one_mul]; done) | (simp only [signV]; (repeat' split) <;> first | with_reducible rfl | omega) | k_extra "EQ")
  k_with "bits_by_make" => (first | with_reducible assumption | ((with_reducible apply bits_fracT); bits_by_make) | ((with_reducible apply bits_fracB); bits_by_make) | exact PySem.intBits_le_64 (by decide) (by decide) | exact PySem.intBits_le_64 (by omega) (by omega) | exact bits_lit200 (by decide +kernel) | fail "bits")
  k_with "k_slotget" => (first | exact List.mem_cons_self | with_reducible assumption | (refine' List.mem_cons_of_mem _ ?_; k_slotget) | fail "mem")
  k_with "subscriptTail Name Constant ref int" => (k_here; k_dflt (refine' item_tupleT (News.isTup ?zqn ?zqm) ?zqa ?zqb ?zqc ?zqd ?_; (case zqn => k_asm); (case zqm => k_slotget); (case zqa => decide); (case zqb => decide); (case zqc => exact rfl); (case zqd => exact rfl); k_whole))
  k_with "execs cons" => (with_reducible refine gen_toks3 (fun tk' => ?_))
  k_with "execs nil" => (with_reducible refine gen_toks3 (fun tk' => ?_))
  k_with "eval Name" => (k_here; k_dflt (first   | (refine' ld ?zqk1 ?zqk2 ?_; (case zqk1 => k_asm); (case zqk2 => exact rfl); k_whole)   | (refine' name_K ?zqkF ?zqk1 ?zqk2 ?zqk3 ?_; (case zqkF => k_asm); (case zqk1 => k_asm); (case zqk2 => k_asm); (case zqk3 => k_is); k_whole)))
  k_with "k_get" => (first | with_reducible assumption | k_slotget | exact Nat.le_trans (by with_reducible assumption) (by decide) | k_extra "P" | decide | omega | (refine intBits_le_64 ?_ ?_ <;> omega) | (exact Nat.le_trans (by bits_by_make) (by decide)) | assumption)
  k_with "ktd_handed" => (first | with_reducible assumption | decide | omega | k_extra "NZ")
  k_with "binaryOp FloorDiv int int" => (k_here; (with_reducible refine floordiv_int ?zqkbe ?_ (Or.inl (PyProof.noPylong_of_log2 ?zqkbp))); (case zqkbe => ktd_handed); (case zqkbp => exact log_of_bits (by bits_by_make) (by decide)))
  k_with "binaryOp Mod int int" => (k_here; (with_reducible refine mod_int' ?zqkbe ?_); (case zqkbe => ktd_handed))
  k_with "binaryOp Mod int int" => (with_reducible refine' mod_int_v ?zqhb ?zqe ?_; (case zqe => with_reducible assumption); (case zqhb => ktd_handed))
  k_with "binaryOp Mod int int" => (k_extra "MYMOD")
  k_with "binaryOp Mult int int" => (k_here; k_dflt (refine' PyProof.Rows.mul_int ?_ ?zqhm; (case zqhm => exact PyProof.Rows.mulOk_of_bits (by bits_by_make) (by bits_by_make) (by decide))))
  k_with "binaryOp Pow int int" => (with_reducible refine' pow2_int ?zqh ?_; (case zqh => first | with_reducible assumption | omega))
  k_with "exec Raise some none" => (exfalso; first | contradiction | omega)
  k_with "END" => (first   | (refine' ret_int ?zqh ?zqe ?zqF ?zqN ?zqsub; (case zqh => assumption); (case zqF => k_asm); (case zqN => k_asm); (case zqsub => k_slotset); (case zqe => k_put))   | (refine' ret_bool ?zqh ?zqe ?zqF ?zqN ?zqsub; (case zqh => assumption); (case zqF => k_asm); (case zqN => k_asm); (case zqsub => k_slotset); (case zqe => k_put))   | (refine' ret_pair ?zqh ?zqhm ?zqex ?zqey ?zqF ?zqN ?zqsub; (case zqh => assumption); (case zqF => k_asm); (case zqN => k_asm); (case zqsub => k_slotset); (case zqhm => k_slotget); (case zqex => k_put); (case zqey => k_put))   | (refine' ret_turn ?zqh ?zqhb ?zqhc ?zqhd ?zqe0 ?zqe1 ?zqe2 ?zqe3 ?zqF ?zqN ?zqsub; (case zqh => assumption); (case zqF => k_asm); (case zqN => k_asm); (case zqsub => k_slotset); (case zqhb => k_slotget); (case zqhc => k_slotget); (case zqhd => k_slotget); (case zqe0 => k_put); (case zqe1 => k_put); (case zqe2 => k_put); (case zqe3 => k_put)))
  k_with "exec While Compare cons nil" => (k_extra "MYWHILE")
  k_with "KswEnd" => (k_extra "MYTURN")
  k_with "x_auto" => (first | with_reducible assumption | omega | k_extra "FACT" | fail "fact")
  k_with "ite" => (first   | (with_reducible refine' ine_t ?zqh ?_; (case zqh => x_auto))   | (with_reducible refine' ine_f ?zqh ?_; (case zqh => x_auto))   | (with_reducible refine' ieq_t ?zqh ?_; (case zqh => x_auto))   | (with_reducible refine' ieq_f ?zqh ?_; (case zqh => x_auto))   | (with_reducible refine' dec_t ?zqh ?_; (case zqh => x_auto))   | (with_reducible refine' dec_f ?zqh ?_; (case zqh => x_auto)))
  k_with "eval BinOp" => (k_here; k_dflt (refine' IV.use ?zqd ?_; (case zqd => tb_rel); k_whole); intro t' tk')
  k_with "eval Tuple" => (k_here; k_dflt (refine' tup2 ?zqda ?zqdb ?zqF ?zqN ?_; (case zqda => tb_rel); (case zqdb => tb_rel); (case zqF => k_asm); (case zqN => k_asm); k_whole); intro D' t' u' h' tk' F' N' l1; (try k_lt l1); (try k_sweep))
  k_with "eval UnaryOp" => (k_here; k_dflt (refine' IV.use ?zqd ?_; (case zqd => tb_rel); k_whole); intro t' tk')
  k_with "eval Subscript" => (k_here; k_dflt (refine' IV.use ?zqd ?_; (case zqd => tb_rel); k_whole); intro t' tk')
  k_with "exec If" => (k_here; k_dflt (first | (refine' if_f ?zqd ?_; (case zqd => tb_rel); k_whole) | (refine' if_t ?zqd ?_; (case zqd => tb_rel); k_whole)); intro tk')
  k_with "OFFA" => (first | (refine' OffA.lt ?_; assumption) | (refine' OffA.cons ?zqc ?zqd; (case zqc => first | exact Or.inr (by k_cls) | exact Or.inl (by k_ne)); (case zqd => walk_at "OFFA")))
  k_with "WO" => (first | (refine' WO.here ?_; walk_at "OFFA") | (refine' WO.cons ?zqc ?zqd; (case zqc => first | exact Or.inr (by k_cls) | exact Or.inl (by k_ne)); (case zqd => walk_at "WO")))
  k_with "UnrEnd" => (refine' unr_end ?zqF ?zqN ?zqW ?_; (case zqF => k_asm); (case zqN => k_asm); (case zqW => walk_at "WO"))
  k_with "ENTER" => (refine' code_def ?zqk1 ?zqk2 ?zqk3 ?zqk4 ?zqk5 ?zqkA ?zqkF ?zqkK ?zqk6 ?zqk7 ?zqk8 ?zqk9 ?zqkB ?_ ?zqc2 ?zqc3 ?zqc4 ?zqc5; (case zqkA => exact rfl); (case zqkF => exact rfl); (case zqkK => assumption); (case zqk1 => k_asm); (case zqk2 => k_asm); (case zqk3 => k_asm); (case zqk4 => k_asm); (case zqk5 => k_asm); (case zqk6 => k_is); (case zqk7 => k_is); (case zqk8 => ktr_room); (case zqk9 => first | exact BindsTo.of_eq rfl | exact binds_K (by k_in) rfl (by k_is) rfl rfl rfl); (case zqc5 => decide); (case zqkB => exact locs rfl); (case zqc2 => exact rfl); (case zqc3 => exact rfl); (case zqc4 => exact rfl); k_whole; intro g' L' h' FG' F' N' B' X' T'; (try dsimp only); (try k_fold))
  k_with "call ref" => (k_here; k_dflt (refine' use_pair (cut_apart ?zqp0 ?zqp1 ?zqp2 ?zqp3 ?zqp4 ?zqp5) ?zqk1 ?zqk2 ?zqk3 ?zqk4 ?zqk5 ?zqkK ?zqkd ?zqku ?_; (case zqk1 => k_asm); (case zqk2 => k_asm); (case zqk3 => k_asm); (case zqk4 => k_asm); (case zqk5 => k_asm); (case zqkK => first | exact rfl | assumption); (case zqp0 => k_get); (case zqp1 => k_get); (case zqp2 => k_get); (case zqp3 => k_get); (case zqp4 => k_get); (case zqp5 => k_get); (case zqkd => ktr_room); (case zqku => ktr_units); k_whole; intro a' t' u' h' tk' F' N'; (try k_sweep); (try dsimp only); (try k_fold)))
  intro mean mg mb dp un gd cn cs c ccd cl outer A₀ base h₀ L m s Q E B F X N T hk hd hu hret
  k_with "EQ" => exact decide_eq_true h
  walk_at "WALK"
set_option maxHeartbeats 4000000 in
theorem cut_more {w : World} {news : List (Addr × Obj)} {pa : Addr} {a0 a1 : Int} {ta ua : Tok} (ha : (pa, pairObj (.int a0 ta) (.int a1 ua)) ∈ news) {mn x y : Int} {t1 : Tok} (e1 : fracT (a0 + mn * a1) a1 = x) (e2 : fracB (a0 + mn * a1) a1 = y) (hz : a1 ≠ 0) (sa1 : Bt 2000 a1) (sm : Bt 2000 mn) : Cut w 248 3 news [.ref pa, .int mn t1] (OPair x y) := by
  unfold Cut
  k_fill
  k_with_none
  k_with "ktr_room" => (first | exact dp_le (by with_reducible assumption) (by decide) | exact dp_le0 (by with_reducible assumption) (by decide) | exact Nat.lt_of_le_of_lt (Nat.le_add_right _ _) (by with_reducible assumption) | fail "room")
  k_with "ktr_units" => (first | exact un_le (by with_reducible assumption) (by decide) | exact un_le0 (by with_reducible assumption) (by decide) | exact Nat.lt_of_le_of_lt (Nat.le_add_right _ _) (by with_reducible assumption) | fail "units")
  k_with "k_slotset" => (intro p hp; repeat (first | exact hp | refine List.mem_cons_of_mem _ ?_))
  k_with "k_put" => (first | with_reducible rfl | omega | assumption | (simp only [Int.mul_one, Int.one_mul]; done) | (simp only [signV]; (repeat' split) <;> first | with_reducible rfl | omega) | k_extra "EQ")
  k_with "bits_by_make" => (first | with_reducible assumption | ((with_reducible apply bits_fracT); bits_by_make) | ((with_reducible apply bits_fracB); bits_by_make) | exact PySem.intBits_le_64 (by decide) (by decide) | exact PySem.intBits_le_64 (by omega) (by omega) | exact bits_lit200 (by decide +kernel) | fail "bits")
  k_with "k_slotget" => (first | exact List.mem_cons_self | with_reducible assumption | (refine' List.mem_cons_of_mem _ ?_; k_slotget) | fail "mem")
  k_with "subscriptTail Name Constant ref int" => (k_here; k_dflt (refine' item_tupleT (News.isTup ?zqn ?zqm) ?zqa ?zqb ?zqc ?zqd ?_; (case zqn => k_asm); (case zqm => k_slotget); (case zqa => decide); (case zqb => decide); (case zqc => exact rfl); (case zqd => exact rfl); k_whole))
  k_with "execs cons" => (with_reducible refine gen_toks3 (fun tk' => ?_))
  k_with "execs nil" => (with_reducible refine gen_toks3 (fun tk' => ?_))
  k_with "eval Name" => (k_here; k_dflt (first   | (refine' ld ?zqk1 ?zqk2 ?_; (case zqk1 => k_asm); (case zqk2 => exact rfl); k_whole)   | (refine' name_K ?zqkF ?zqk1 ?zqk2 ?zqk3 ?_; (case zqkF => k_asm); (case zqk1 => k_asm); (case zqk2 => k_asm); (case zqk3 => k_is); k_whole)))
  k_with "k_get" => (first | with_reducible assumption | k_slotget | exact Nat.le_trans (by with_reducible assumption) (by decide) | k_extra "P" | decide | omega | (refine intBits_le_64 ?_ ?_ <;> omega) | (exact Nat.le_trans (by bits_by_make) (by decide)) | assumption)
  k_with "ktd_handed" => (first | with_reducible assumption | decide | omega | k_extra "NZ")
  k_with "binaryOp FloorDiv int int" => (k_here; (with_reducible refine floordiv_int ?zqkbe ?_ (Or.inl (PyProof.noPylong_of_log2 ?zqkbp))); (case zqkbe => ktd_handed); (case zqkbp => exact log_of_bits (by bits_by_make) (by decide)))
  k_with "binaryOp Mod int int" => (k_here; (with_reducible refine mod_int' ?zqkbe ?_); (case zqkbe => ktd_handed))
  k_with "binaryOp Mod int int" => (with_reducible refine' mod_int_v ?zqhb ?zqe ?_; (case zqe => with_reducible assumption); (case zqhb => ktd_handed))
  k_with "binaryOp Mod int int" => (k_extra "MYMOD")
  k_with "binaryOp Mult int int" => (k_here; k_dflt (refine' PyProof.Rows.mul_int ?_ ?zqhm; (case zqhm => exact PyProof.Rows.mulOk_of_bits (by bits_by_make) (by bits_by_make) (by decide))))
  k_with "binaryOp Pow int int" => (with_reducible refine' pow2_int ?zqh ?_; (case zqh => first | with_reducible assumption | omega))
  k_with "exec Raise some none" => (exfalso; first | contradiction | omega)
  k_with "END" => (first   | (refine' ret_int ?zqh ?zqe ?zqF ?zqN ?zqsub; (case zqh => assumption); (case zqF => k_asm); (case zqN => k_asm); (case zqsub => k_slotset); (case zqe => k_put))   | (refine' ret_bool ?zqh ?zqe ?zqF ?zqN ?zqsub; (case zqh => assumption); (case zqF => k_asm); (case zqN => k_asm); (case zqsub => k_slotset); (case zqe => k_put))   | (refine' ret_pair ?zqh ?zqhm ?zqex ?zqey ?zqF ?zqN ?zqsub; (case zqh => assumption); (case zqF => k_asm); (case zqN => k_asm); (case zqsub => k_slotset); (case zqhm => k_slotget); (case zqex => k_put); (case zqey => k_put))   | (refine' ret_turn ?zqh ?zqhb ?zqhc ?zqhd ?zqe0 ?zqe1 ?zqe2 ?zqe3 ?zqF ?zqN ?zqsub; (case zqh => assumption); (case zqF => k_asm); (case zqN => k_asm); (case zqsub => k_slotset); (case zqhb => k_slotget); (case zqhc => k_slotget); (case zqhd => k_slotget); (case zqe0 => k_put); (case zqe1 => k_put); (case zqe2 => k_put); (case zqe3 => k_put)))
  k_with "exec While Compare cons nil" => (k_extra "MYWHILE")
  k_with "KswEnd" => (k_extra "MYTURN")
  k_with "x_auto" => (first | with_reducible assumption | omega | k_extra "FACT" | fail "fact")
  k_with "ite" => (first   | (with_reducible refine' ine_t ?zqh ?_; (case zqh => x_auto))   | (with_reducible refine' ine_f ?zqh ?_; (case zqh => x_auto))   | (with_reducible refine' ieq_t ?zqh ?_; (case zqh => x_auto))   | (with_reducible refine' ieq_f ?zqh ?_; (case zqh => x_auto))   | (with_reducible refine' dec_t ?zqh ?_; (case zqh => x_auto))   | (with_reducible refine' dec_f ?zqh ?_; (case zqh => x_auto)))
  k_with "eval BinOp" => (k_here; k_dflt (refine' IV.use ?zqd ?_; (case zqd => tb_rel); k_whole); intro t' tk')
  k_with "eval Tuple" => (k_here; k_dflt (refine' tup2 ?zqda ?zqdb ?zqF ?zqN ?_; (case zqda => tb_rel); (case zqdb => tb_rel); (case zqF => k_asm); (case zqN => k_asm); k_whole); intro D' t' u' h' tk' F' N' l1; (try k_lt l1); (try k_sweep))
  k_with "eval UnaryOp" => (k_here; k_dflt (refine' IV.use ?zqd ?_; (case zqd => tb_rel); k_whole); intro t' tk')
  k_with "eval Subscript" => (k_here; k_dflt (refine' IV.use ?zqd ?_; (case zqd => tb_rel); k_whole); intro t' tk')
  k_with "exec If" => (k_here; k_dflt (first | (refine' if_f ?zqd ?_; (case zqd => tb_rel); k_whole) | (refine' if_t ?zqd ?_; (case zqd => tb_rel); k_whole)); intro tk')
  k_with "OFFA" => (first | (refine' OffA.lt ?_; assumption) | (refine' OffA.cons ?zqc ?zqd; (case zqc => first | exact Or.inr (by k_cls) | exact Or.inl (by k_ne)); (case zqd => walk_at "OFFA")))
  k_with "WO" => (first | (refine' WO.here ?_; walk_at "OFFA") | (refine' WO.cons ?zqc ?zqd; (case zqc => first | exact Or.inr (by k_cls) | exact Or.inl (by k_ne)); (case zqd => walk_at "WO")))
  k_with "UnrEnd" => (refine' unr_end ?zqF ?zqN ?zqW ?_; (case zqF => k_asm); (case zqN => k_asm); (case zqW => walk_at "WO"))
  k_with "ENTER" => (refine' code_def ?zqk1 ?zqk2 ?zqk3 ?zqk4 ?zqk5 ?zqkA ?zqkF ?zqkK ?zqk6 ?zqk7 ?zqk8 ?zqk9 ?zqkB ?_ ?zqc2 ?zqc3 ?zqc4 ?zqc5; (case zqkA => exact rfl); (case zqkF => exact rfl); (case zqkK => assumption); (case zqk1 => k_asm); (case zqk2 => k_asm); (case zqk3 => k_asm); (case zqk4 => k_asm); (case zqk5 => k_asm); (case zqk6 => k_is); (case zqk7 => k_is); (case zqk8 => ktr_room); (case zqk9 => first | exact BindsTo.of_eq rfl | exact binds_K (by k_in) rfl (by k_is) rfl rfl rfl); (case zqc5 => decide); (case zqkB => exact locs rfl); (case zqc2 => exact rfl); (case zqc3 => exact rfl); (case zqc4 => exact rfl); k_whole; intro g' L' h' FG' F' N' B' X' T'; (try dsimp only); (try k_fold))
  k_with "call ref" => (k_here; k_dflt (refine' use_pair (cut_apart ?zqp0 ?zqp1 ?zqp2 ?zqp3 ?zqp4 ?zqp5) ?zqk1 ?zqk2 ?zqk3 ?zqk4 ?zqk5 ?zqkK ?zqkd ?zqku ?_; (case zqk1 => k_asm); (case zqk2 => k_asm); (case zqk3 => k_asm); (case zqk4 => k_asm); (case zqk5 => k_asm); (case zqkK => first | exact rfl | assumption); (case zqp0 => k_get); (case zqp1 => k_get); (case zqp2 => k_get); (case zqp3 => k_get); (case zqp4 => k_get); (case zqp5 => k_get); (case zqkd => ktr_room); (case zqku => ktr_units); k_whole; intro a' t' u' h' tk' F' N'; (try k_sweep); (try dsimp only); (try k_fold)))
  k_with "call ref" => (k_here; k_dflt (refine' use_pair (cut_fractionE ?zqp0 ?zqp1 ?zqp2 ?zqp3) ?zqk1 ?zqk2 ?zqk3 ?zqk4 ?zqk5 ?zqkK ?zqkd ?zqku ?_; (case zqk1 => k_asm); (case zqk2 => k_asm); (case zqk3 => k_asm); (case zqk4 => k_asm); (case zqk5 => k_asm); (case zqkK => first | exact rfl | assumption); (case zqp0 => k_get); (case zqp1 => k_get); (case zqp2 => k_get); (case zqp3 => k_get); (case zqkd => ktr_room); (case zqku => ktr_units); k_whole; intro a' t' u' h' tk' F' N'; (try k_sweep); (try dsimp only); (try k_fold)))
  intro mean mg mb dp un gd cn cs c ccd cl outer A₀ base h₀ L m s Q E B F X N T hk hd hu hret
  walk_at "WALK"
end
section
def dueV (v c0 s0 : Int) : Prop := (v = 0 ∧ c0 = 1 ∧ s0 = 0) ∨ (v = 1 ∧ c0 = 0 ∧ s0 = 1) ∨ (v = 2 ∧ c0 = -1 ∧ s0 = 0) ∨ (v = 3 ∧ c0 = 0 ∧ s0 = -1)
section
variable {M : Model} {A : Around} {E : Value → Shared → Prop} {s : Shared} {h₀ : Heap} {L c d : Addr} {m m₁ : PySem.Str → Option Value} {k : PySem.Str} {c0 c1 s0 s1 : Int} {t u v z : Tok} {big : List (Addr × Obj)}
theorem if_keep {x : Sem Flow} {Q : Flow → Shared → Prop} (news : List (Addr × Obj)) (F : Fr h₀ L s.heap m) (N : News h₀ L s.heap big) (kc : m (PySem.Str.ofString "cosine") = some (.ref c)) (ks : m (PySem.Str.ofString "sine") = some (.ref d)) (mc : (c, pairObj (.int c0 t) (.int c1 u)) ∈ big) (md : (d, pairObj (.int s0 v) (.int s1 z)) ∈ big)
    (h1 : wpAny M A x (JP h₀ L (fun (_ : Unit) => m) (fun _ => (c, pairObj (.int c0 t) (.int c1 u)) :: (d, pairObj (.int s0 v) (.int s1 z)) :: news) s) E s)
    (h2 : ∀ h' tk', Fr h₀ L h' m → News h₀ L h' ((c, pairObj (.int c0 t) (.int c1 u)) :: (d, pairObj (.int s0 v) (.int s1 z)) :: news) → Q .next { s with heap := h', toks := tk' }) : wpAny M A x Q E s :=
  jp_use h1 fun _ h' tk' F' N' => h2 h' tk' F' N'
theorem if_opt {x : Sem Flow} {Q : Flow → Shared → Prop} (k : PySem.Str) (news : List (Addr × Obj)) (F : Fr h₀ L s.heap m) (N : News h₀ L s.heap big) (kc : m (PySem.Str.ofString "cosine") = some (.ref c)) (ks : m (PySem.Str.ofString "sine") = some (.ref d)) (mc : (c, pairObj (.int c0 t) (.int c1 u)) ∈ big) (md : (d, pairObj (.int s0 v) (.int s1 z)) ∈ big)
    (h1 : wpAny M A x (JP h₀ L (fun (o : Option Value) y => if y = k then o else m y) (fun _ => (c, pairObj (.int c0 t) (.int c1 u)) :: (d, pairObj (.int s0 v) (.int s1 z)) :: news) s) E s)
    (h2 : ∀ o h' tk', Fr h₀ L h' (fun y => if y = k then o else m y) → News h₀ L h' ((c, pairObj (.int c0 t) (.int c1 u)) :: (d, pairObj (.int s0 v) (.int s1 z)) :: news) → Q .next { s with heap := h', toks := tk' }) : wpAny M A x Q E s :=
  jp_use h1 fun o h' tk' F' N' => h2 o h' tk' F' N'
theorem sub3 {news : List (Addr × Obj)} {p1 p2 : Addr × Obj} (m1 : p1 ∈ big) (m2 : p2 ∈ big) (sub : ∀ p ∈ news, p ∈ big) : ∀ p ∈ p1 :: p2 :: news, p ∈ big := fun p hp => by
  rcases List.mem_cons.mp hp with rfl | hp
  · exact m1
  rcases List.mem_cons.mp hp with rfl | hp
  · exact m2
  · exact sub p hp
theorem jp_keep {news : List (Addr × Obj)} {p1 p2 : Addr × Obj} {h' : Heap} {tk' : Nat} (F : Fr h₀ L h' m₁) (N : News h₀ L h' big) (hm : m₁ = m) (m1 : p1 ∈ big) (m2 : p2 ∈ big) (sub : ∀ p ∈ news, p ∈ big) : JP h₀ L (fun (_ : Unit) => m) (fun _ => p1 :: p2 :: news) s .next { s with heap := h', toks := tk' } :=
  jp_mk () F N hm (sub3 m1 m2 sub)
theorem jp_opt {o : Option Value} {news : List (Addr × Obj)} {p1 p2 : Addr × Obj} {h' : Heap} {tk' : Nat} (F : Fr h₀ L h' m₁) (N : News h₀ L h' big) (hm : m₁ = fun y => if y = k then o else m y) (m1 : p1 ∈ big) (m2 : p2 ∈ big) (sub : ∀ p ∈ news, p ∈ big) : JP h₀ L (fun (o : Option Value) y => if y = k then o else m y) (fun _ => p1 :: p2 :: news) s .next { s with heap := h', toks := tk' } :=
  jp_mk o F N hm (sub3 m1 m2 sub)
end
theorem item_due {prog : Program} {w : World} {A : Around} {E : Value → Shared → Prop} {s : Shared} {value slice : PySem.Expr} {h₀ : Heap} {L l x0 x1 x2 x3 : Addr} {news : List (Addr × Obj)} {n : Nat} {v c0 s0 : Int} {tv t0 u0 t1 u1 t2 u2 t3 u3 : Tok} {Q : Value → Shared → Prop}
    (N : News h₀ L s.heap news) (hm : (l, ({ cls := .type "list", data := .seq #[Value.ref x0, .ref x1, .ref x2, .ref x3] n } : Obj)) ∈ news)
    (m0 : (x0, pairObj (.int 1 t0) (.int 0 u0)) ∈ news) (m1 : (x1, pairObj (.int 0 t1) (.int 1 u1)) ∈ news) (m2 : (x2, pairObj (.int (-1) t2) (.int 0 u2)) ∈ news) (m3 : (x3, pairObj (.int 0 t3) (.int (-1) u3)) ∈ news)
    (hq : dueV v c0 s0) (h : ∀ x t u, (x, pairObj (.int c0 t) (.int s0 u)) ∈ news → Q (.ref x) s)
    (hs : ∀ k, subscripted slice false (.ref l) (.int k tv) = operate [.ref l, .int k tv] (getItem (.ref l) (.int k tv)) := by intro k; with_unfolding_all rfl) :
    wpAny (model prog w) A (subscriptTail value slice (.ref l) (.int v tv)) Q E s := by
  rcases hq with ⟨rfl, rfl, rfl⟩ | ⟨rfl, rfl, rfl⟩ | ⟨rfl, rfl, rfl⟩ | ⟨rfl, rfl, rfl⟩
  · exact item_listN (vs := [.ref x0, .ref x1, .ref x2, .ref x3]) N hm (by decide) (by decide) rfl (h _ _ _ m0) (hs _)
  · exact item_listN (vs := [.ref x0, .ref x1, .ref x2, .ref x3]) N hm (by decide) (by decide) rfl (h _ _ _ m1) (hs _)
  · exact item_listN (vs := [.ref x0, .ref x1, .ref x2, .ref x3]) N hm (by decide) (by decide) rfl (h _ _ _ m2) (hs _)
  · exact item_listN (vs := [.ref x0, .ref x1, .ref x2, .ref x3]) N hm (by decide) (by decide) rfl (h _ _ _ m3) (hs _)
set_option maxHeartbeats 4000000 in
theorem cut_tr {w : World} {news : List (Addr × Obj)} {pa : Addr} {a0 a1 : Int} {ta ua : Tok} (ha : (pa, pairObj (.int a0 ta) (.int a1 ua)) ∈ news) {bt c0 c1 s0 s1 z v : Int} {t1 : Tok} (H0 : toR a0 a1 bt = some (c0, c1, s0, s1)) (hm1 : bt.fmod c1 = 0) (hm2 : bt.fmod s1 = 0) (hc1 : c1 ≠ 0) (hs1 : s1 ≠ 0) (hn : Hid ((((((c0 * c0) * (s1 * s1) + (s0 * s0) * (c1 * c1)) * 1 - 1 * ((c1 * c1) * (s1 * s1))).natAbs : Nat) : Int) * bt ≤ 2 * ((c1 * c1) * (s1 * s1) * 1))) {x1 y1 x2 y2 x4 y4 : Int} (e1 : fracT (a0 + 360 * a1) a1 = x1) (e2 : fracB (a0 + 360 * a1) a1 = y1) (H1 : toR x1 y1 bt = some (c0, c1, s0, s1)) (e3 : fracT (a0 + 90 * a1) a1 = x2) (e4 : fracB (a0 + 90 * a1) a1 = y2) (H2 : toR x2 y2 bt = some (-s0, s1, c0, c1)) (H3 : toR (-a0) a1 bt = some (c0, c1, -s0, s1)) (e5 : fracT (-a0 + 90 * a1) a1 = x4) (e6 : fracB (-a0 + 90 * a1) a1 = y4) (H4 : toR x4 y4 bt = some (s0, s1, c0, c1)) (hz : a0.fmod (90 * a1) = z) (hv : (a0.fdiv (90 * a1)).fmod 4 = v) (hq : z ≠ 0 ∨ (z = 0 ∧ c1 = 1 ∧ s1 = 1 ∧ dueV v c0 s0)) (hd : 0 < a1) (hy1 : 0 < y1) (hy2 : 0 < y2) (hy4 : 0 < y4) (hbt : 0 < bt) (z1 : Bt 60 a0) (z2 : Bt 60 a1) (z3 : Bt 60 bt) (w1 : c0.natAbs < 2 ^ 60) (w2 : c1.natAbs < 2 ^ 60) (w3 : s0.natAbs < 2 ^ 60) (w4 : s1.natAbs < 2 ^ 60) (v1 : Bt 70 x1) (v2 : Bt 70 y1) (v3 : Bt 70 x2) (v4 : Bt 70 y2) (v5 : Bt 70 x4) (v6 : Bt 70 y4) : Cut w 255 10 news [.ref pa, .int bt t1] (OBool true) := by
  w_top off
  unfold Cut
  k_fill
  k_with_none
  k_with "ktr_room" => (first | exact dp_le (by with_reducible assumption) (by decide) | exact dp_le0 (by with_reducible assumption) (by decide) | exact Nat.lt_of_le_of_lt (Nat.le_add_right _ _) (by with_reducible assumption) | fail "room")
  k_with "ktr_units" => (first | exact un_le (by with_reducible assumption) (by decide) | exact un_le0 (by with_reducible assumption) (by decide) | exact Nat.lt_of_le_of_lt (Nat.le_add_right _ _) (by with_reducible assumption) | fail "units")
  k_with "k_slotset" => (intro p hp; repeat (first | exact hp | refine List.mem_cons_of_mem _ ?_))
  k_with "k_put" => (first | with_reducible rfl | omega | assumption | (simp only [Int.mul_one, Int.one_mul]; done) | (simp only [signV]; (repeat' split) <;> first | with_reducible rfl | omega) | k_extra "EQ")
  k_with "bits_by_make" => (first | with_reducible assumption | ((with_reducible apply bits_fracT); bits_by_make) | ((with_reducible apply bits_fracB); bits_by_make) | exact PySem.intBits_le_64 (by decide) (by decide) | exact PySem.intBits_le_64 (by omega) (by omega) | exact bits_lit200 (by decide +kernel) | fail "bits")
  k_with "k_slotget" => (first | exact List.mem_cons_self | with_reducible assumption | (refine' List.mem_cons_of_mem _ ?_; k_slotget) | fail "mem")
  k_with "subscriptTail Name Constant ref int" => (k_here; k_dflt (refine' item_tupleT (News.isTup ?zqn ?zqm) ?zqa ?zqb ?zqc ?zqd ?_; (case zqn => k_asm); (case zqm => k_slotget); (case zqa => decide); (case zqb => decide); (case zqc => exact rfl); (case zqd => exact rfl); k_whole))
  k_with "execs cons" => (with_reducible refine gen_toks3 (fun tk' => ?_))
  k_with "execs nil" => (with_reducible refine gen_toks3 (fun tk' => ?_))
  k_with "eval Name" => (k_here; k_dflt (first   | (refine' ld ?zqk1 ?zqk2 ?_; (case zqk1 => k_asm); (case zqk2 => exact rfl); k_whole)   | (refine' name_K ?zqkF ?zqk1 ?zqk2 ?zqk3 ?_; (case zqkF => k_asm); (case zqk1 => k_asm); (case zqk2 => k_asm); (case zqk3 => k_is); k_whole)))
  k_with "k_get" => (first | with_reducible assumption | k_slotget | exact Nat.le_trans (by with_reducible assumption) (by decide) | k_extra "P" | decide | omega | (refine intBits_le_64 ?_ ?_ <;> omega) | (exact Nat.le_trans (by bits_by_make) (by decide)) | assumption)
  k_with "ktd_handed" => (first | with_reducible assumption | decide | omega | k_extra "NZ")
  k_with "binaryOp FloorDiv int int" => (k_here; (with_reducible refine floordiv_int ?zqkbe ?_ (Or.inl (PyProof.noPylong_of_log2 ?zqkbp))); (case zqkbe => ktd_handed); (case zqkbp => exact log_of_bits (by bits_by_make) (by decide)))
  k_with "binaryOp Mod int int" => (k_here; (with_reducible refine mod_int' ?zqkbe ?_); (case zqkbe => ktd_handed))
  k_with "binaryOp Mod int int" => (with_reducible refine' mod_int_v ?zqhb ?zqe ?_; (case zqe => with_reducible assumption); (case zqhb => ktd_handed))
  k_with "binaryOp Mod int int" => (k_extra "MYMOD")
  k_with "binaryOp Mult int int" => (k_here; k_dflt (refine' PyProof.Rows.mul_int ?_ ?zqhm; (case zqhm => exact PyProof.Rows.mulOk_of_bits (by bits_by_make) (by bits_by_make) (by decide))))
  k_with "binaryOp Pow int int" => (with_reducible refine' pow2_int ?zqh ?_; (case zqh => first | with_reducible assumption | omega))
  k_with "exec Raise some none" => (exfalso; first | contradiction | omega)
  k_with "END" => (first   | (refine' ret_int ?zqh ?zqe ?zqF ?zqN ?zqsub; (case zqh => assumption); (case zqF => k_asm); (case zqN => k_asm); (case zqsub => k_slotset); (case zqe => k_put))   | (refine' ret_bool ?zqh ?zqe ?zqF ?zqN ?zqsub; (case zqh => assumption); (case zqF => k_asm); (case zqN => k_asm); (case zqsub => k_slotset); (case zqe => k_put))   | (refine' ret_pair ?zqh ?zqhm ?zqex ?zqey ?zqF ?zqN ?zqsub; (case zqh => assumption); (case zqF => k_asm); (case zqN => k_asm); (case zqsub => k_slotset); (case zqhm => k_slotget); (case zqex => k_put); (case zqey => k_put))   | (refine' ret_turn ?zqh ?zqhb ?zqhc ?zqhd ?zqe0 ?zqe1 ?zqe2 ?zqe3 ?zqF ?zqN ?zqsub; (case zqh => assumption); (case zqF => k_asm); (case zqN => k_asm); (case zqsub => k_slotset); (case zqhb => k_slotget); (case zqhc => k_slotget); (case zqhd => k_slotget); (case zqe0 => k_put); (case zqe1 => k_put); (case zqe2 => k_put); (case zqe3 => k_put)))
  k_with "exec While Compare cons nil" => (k_extra "MYWHILE")
  k_with "KswEnd" => (k_extra "MYTURN")
  k_with "x_auto" => (first | with_reducible assumption | omega | k_extra "FACT" | fail "fact")
  k_with "ite" => (first   | (with_reducible refine' ine_t ?zqh ?_; (case zqh => x_auto))   | (with_reducible refine' ine_f ?zqh ?_; (case zqh => x_auto))   | (with_reducible refine' ieq_t ?zqh ?_; (case zqh => x_auto))   | (with_reducible refine' ieq_f ?zqh ?_; (case zqh => x_auto))   | (with_reducible refine' dec_t ?zqh ?_; (case zqh => x_auto))   | (with_reducible refine' dec_f ?zqh ?_; (case zqh => x_auto)))
  k_with "eval BinOp" => (k_here; k_dflt (refine' IV.use ?zqd ?_; (case zqd => tb_rel); k_whole); intro t' tk')
  k_with "eval Tuple" => (k_here; k_dflt (refine' tup2 ?zqda ?zqdb ?zqF ?zqN ?_; (case zqda => tb_rel); (case zqdb => tb_rel); (case zqF => k_asm); (case zqN => k_asm); k_whole); intro D' t' u' h' tk' F' N' l1; (try k_lt l1); (try k_sweep))
  k_with "eval UnaryOp" => (k_here; k_dflt (refine' IV.use ?zqd ?_; (case zqd => tb_rel); k_whole); intro t' tk')
  k_with "eval Subscript" => (k_here; k_dflt (refine' IV.use ?zqd ?_; (case zqd => tb_rel); k_whole); intro t' tk')
  k_with "exec If" => (k_here; k_dflt (first | (refine' if_f ?zqd ?_; (case zqd => tb_rel); k_whole) | (refine' if_t ?zqd ?_; (case zqd => tb_rel); k_whole)); intro tk')
  k_with "OFFA" => (first | (refine' OffA.lt ?_; assumption) | (refine' OffA.cons ?zqc ?zqd; (case zqc => first | exact Or.inr (by k_cls) | exact Or.inl (by k_ne)); (case zqd => walk_at "OFFA")))
  k_with "WO" => (first | (refine' WO.here ?_; walk_at "OFFA") | (refine' WO.cons ?zqc ?zqd; (case zqc => first | exact Or.inr (by k_cls) | exact Or.inl (by k_ne)); (case zqd => walk_at "WO")))
  k_with "UnrEnd" => (refine' unr_end ?zqF ?zqN ?zqW ?_; (case zqF => k_asm); (case zqN => k_asm); (case zqW => walk_at "WO"))
  k_with "ENTER" => (refine' code_def ?zqk1 ?zqk2 ?zqk3 ?zqk4 ?zqk5 ?zqkA ?zqkF ?zqkK ?zqk6 ?zqk7 ?zqk8 ?zqk9 ?zqkB ?_ ?zqc2 ?zqc3 ?zqc4 ?zqc5; (case zqkA => exact rfl); (case zqkF => exact rfl); (case zqkK => assumption); (case zqk1 => k_asm); (case zqk2 => k_asm); (case zqk3 => k_asm); (case zqk4 => k_asm); (case zqk5 => k_asm); (case zqk6 => k_is); (case zqk7 => k_is); (case zqk8 => ktr_room); (case zqk9 => first | exact BindsTo.of_eq rfl | exact binds_K (by k_in) rfl (by k_is) rfl rfl rfl); (case zqc5 => decide); (case zqkB => exact locs rfl); (case zqc2 => exact rfl); (case zqc3 => exact rfl); (case zqc4 => exact rfl); k_whole; intro g' L' h' FG' F' N' B' X' T'; (try dsimp only); (try k_fold))
  k_with "subscriptTail List BinOp ref int" => (k_here; k_dflt (refine' item_listN ?zqn ?zqm ?zqa ?zqb ?zqc ?_; (case zqn => k_asm); (case zqm => k_slotget); (case zqa => first | decide | omega); (case zqb => first | decide | omega); (case zqc => exact rfl); k_whole))
  k_with "compareOp NotEq ref ref" => (k_here; (with_reducible show wpAny _ _ (compareOp CmpOp.NotEq (Value.ref _) (Value.ref _)) _ _ _); k_dflt (refine' cmp_turn_ne ?zqN ?zqha ?zqhc ?zqhd ?zqhA ?zqhC ?zqhD ?zqe0 ?zqe1 ?zqe2 ?zqe3 ?zqhu ?_; (case zqN => k_asm); (case zqha => k_slotget); (case zqhc => k_slotget); (case zqhd => k_slotget); (case zqhA => k_slotget); (case zqhC => k_slotget); (case zqhD => k_slotget); (case zqe0 => k_put); (case zqe1 => k_put); (case zqe2 => k_put); (case zqe3 => k_put); (case zqhu => ktr_units); k_whole))
  k_with "compareOp Eq ref ref" => (k_here; (with_reducible show wpAny _ _ (compareOp CmpOp.Eq (Value.ref _) (Value.ref _)) _ _ _); k_dflt (refine' cmp_pair_eq ?zqN ?zqhc ?zqhC ?zqe0 ?zqe1 ?zqhu ?_; (case zqN => k_asm); (case zqhc => k_slotget); (case zqhC => k_slotget); (case zqe0 => k_put); (case zqe1 => k_put); (case zqhu => ktr_units); k_whole))
  k_with "compareOp Eq ref ref" => (k_here; (with_reducible show wpAny _ _ (compareOp CmpOp.Eq (Value.ref _) (Value.ref _)) _ _ _); k_dflt (refine' cmp_turn_eq ?zqN ?zqha ?zqhc ?zqhd ?zqhA ?zqhC ?zqhD ?zqe0 ?zqe1 ?zqe2 ?zqe3 ?zqhu ?_; (case zqN => k_asm); (case zqha => k_slotget); (case zqhc => k_slotget); (case zqhd => k_slotget); (case zqhA => k_slotget); (case zqhC => k_slotget); (case zqhD => k_slotget); (case zqe0 => k_put); (case zqe1 => k_put); (case zqe2 => k_put); (case zqe3 => k_put); (case zqhu => ktr_units); k_whole))
  k_with "call ref" => (k_here; k_dflt (refine' use_turn (cut_turn ?zqp0 ?zqp1 ?zqp2 ?zqp3 ?zqp4 ?zqp5 ?zqp6) ?zqk1 ?zqk2 ?zqk3 ?zqk4 ?zqk5 ?zqkK ?zqkd ?zqku ?_; (case zqk1 => k_asm); (case zqk2 => k_asm); (case zqk3 => k_asm); (case zqk4 => k_asm); (case zqk5 => k_asm); (case zqkK => first | exact rfl | assumption); (case zqp0 => k_get); (case zqp1 => k_get); (case zqp2 => k_get); (case zqp3 => k_get); (case zqp4 => k_get); (case zqp5 => k_get); (case zqp6 => k_get); (case zqkd => ktr_room); (case zqku => ktr_units); k_whole; intro a' c' d' t' u' v' z' h' tk' F' N'; (try k_sweep); (try dsimp only); (try k_fold)))
  k_with "call ref" => (k_here; k_dflt (refine' use_bool (cut_is_near ?zqp0 ?zqp1 ?zqp2 ?zqp3 ?zqp4 ?zqp5 ?zqp6 ?zqp7 ?zqp8) ?zqk1 ?zqk2 ?zqk3 ?zqk4 ?zqk5 ?zqkK ?zqkd ?zqku ?_; (case zqk1 => k_asm); (case zqk2 => k_asm); (case zqk3 => k_asm); (case zqk4 => k_asm); (case zqk5 => k_asm); (case zqkK => first | exact rfl | assumption); (case zqp0 => k_get); (case zqp1 => k_get); (case zqp2 => k_get); (case zqp3 => k_get); (case zqp4 => k_get); (case zqp5 => k_get); (case zqp6 => k_get); (case zqp7 => k_get); (case zqp8 => k_get); (case zqkd => ktr_room); (case zqku => ktr_units); k_whole; intro h' tk' F' N'; (try k_sweep); (try dsimp only); (try k_fold)))
  k_with "call ref" => (k_here; k_dflt (refine' use_pair (cut_more ?zqp0 ?zqp1 ?zqp2 ?zqp3 ?zqp4 ?zqp5) ?zqk1 ?zqk2 ?zqk3 ?zqk4 ?zqk5 ?zqkK ?zqkd ?zqku ?_; (case zqk1 => k_asm); (case zqk2 => k_asm); (case zqk3 => k_asm); (case zqk4 => k_asm); (case zqk5 => k_asm); (case zqkK => first | exact rfl | assumption); (case zqp0 => k_get); (case zqp1 => k_get); (case zqp2 => k_get); (case zqp3 => k_get); (case zqp4 => k_get); (case zqp5 => k_get); (case zqkd => ktr_room); (case zqku => ktr_units); k_whole; intro a' t' u' h' tk' F' N'; (try k_sweep); (try dsimp only); (try k_fold)))
  k_with "exec If" => (k_here; k_dflt k_extra "MYIF")
  k_with "JP" => (first   | (refine' jp_keep ?zqF ?zqN ?zqhm ?zqa ?zqb ?zqsub; (case zqF => k_asm); (case zqN => k_asm); (case zqhm => exact rfl); (case zqa => k_slotget); (case zqb => k_slotget); (case zqsub => k_slotset))   | (refine' jp_opt ?zqF ?zqN ?zqhm ?zqa ?zqb ?zqsub; (case zqF => k_asm); (case zqN => k_asm); (case zqhm => first | exact rfl | exact upd_same rfl); (case zqa => k_slotget); (case zqb => k_slotget); (case zqsub => k_slotset))   | fail "JP")
  k_with "subscriptTail List BinOp ref int" => (k_here; k_dflt (refine' item_due ?zqn ?zqm ?zqa ?zqb ?zqc ?zqd ?zqq ?_; (case zqn => k_asm); (case zqm => k_slotget); (case zqa => k_slotget); (case zqb => k_slotget); (case zqc => k_slotget); (case zqd => k_slotget); (case zqq => with_reducible assumption); k_whole); intro x' t' u' mX')
  k_with "subscriptTail Name BinOp ref int" => (k_here; k_dflt (refine' item_due ?zqn ?zqm ?zqa ?zqb ?zqc ?zqd ?zqq ?_; (case zqn => k_asm); (case zqm => k_slotget); (case zqa => k_slotget); (case zqb => k_slotget); (case zqc => k_slotget); (case zqd => k_slotget); (case zqq => with_reducible assumption); k_whole); intro x' t' u' mX')
  intro mean mg mb dp un gd cn cs c ccd cl outer A₀ base h₀ L m s Q E B F X N T hk hd hu hret
  have b1 := bits_of_lt w1
  have b2 := bits_of_lt w2
  have b3 := bits_of_lt w3
  have b4 := bits_of_lt w4
  k_with "P" => exact Hid.out hn
  k_with "MYIF" => (
    (fail_if_success (with_reducible show wpAny _ _ _ (JP _ _ _ _ _) _ _))
    rename Fr _ _ _ _ => lF'
    rename News _ _ _ _ => lN'
    refine' if_keep news lF' lN' ?zkc ?zks ?zmc ?zmd ?_ ?_
    (case zkc => exact rfl)
    (case zks => exact rfl)
    (case zmc => k_slotget)
    (case zmd => k_slotget)
    rotate_left
    intro h' tk' F' N'
    clear lF' lN'
    try dsimp only
    try k_sweep
    try k_fold
    rotate_left)
  k_with "MYIF" => (
    with_reducible show wpAny _ _ (exec (Stmt.If (Expr.Compare (Expr.BinOp _ Operator.Mod _ _) [CmpOp.Eq] _ _) _ _ _) _) _ _ _
    rename Fr _ _ _ _ => lF'
    rename News _ _ _ _ => lN'
    refine' if_opt (PySem.Str.ofString "due") news lF' lN' ?zkc ?zks ?zmc ?zmd ?_ ?_
    (case zkc => exact rfl)
    (case zks => exact rfl)
    (case zmc => k_slotget)
    (case zmd => k_slotget)
    rotate_left
    clear hq hz hv
    intro o' h' tk' F' N'
    clear lF' lN'
    try dsimp only
    try k_sweep
    try k_fold
    rotate_left
    clear H0 H1 H2 H3 H4 e1 e2 e3 e4 e5 e6 hn
    rcases hq with p0 | ⟨p0, p1, p2, p3⟩
    refine' if_f ?zd ?_
    (case zd => tb_rel)
    intro tk'
    rotate_left
    refine' if_t ?ze ?_
    (case ze => tb_rel)
    intro tk')
  walk_at "WALK"
end
section
set_option maxHeartbeats 4000000 in
theorem cut_twice {w : World} {news : List (Addr × Obj)} {pa : Addr} {a0 a1 : Int} {ta ua : Tok} (ha : (pa, pairObj (.int a0 ta) (.int a1 ua)) ∈ news) {bt c0 c1 s0 s1 x y w0 w1 h0 h1 : Int} {t1 : Tok} (H0 : toR a0 a1 bt = some (c0, c1, s0, s1)) (e1 : fracT (2 * a0) a1 = x) (e2 : fracB (2 * a0) a1 = y) (H1 : toR x y bt = some (w0, w1, h0, h1)) (hn1 : (((h0 * (c1 * s1) - 2 * c0 * s0 * h1).natAbs : Nat) : Int) * bt ≤ 2 * (h1 * (c1 * s1))) (hn2 : (((w0 * (c1 * s1 * (c1 * s1)) - (c0 * c0 * (s1 * s1) - s0 * s0 * (c1 * c1)) * w1).natAbs : Nat) : Int) * bt ≤ 2 * (w1 * (c1 * s1 * (c1 * s1)))) (hd : 0 < a1) (hy : 0 < y) (hbt : 0 < bt) (z1 : Bt 60 a0) (z2 : Bt 60 a1) (z3 : Bt 60 bt) (v1 : Bt 70 x) (v2 : Bt 70 y) (q1 : c0.natAbs < 2 ^ 60) (q2 : c1.natAbs < 2 ^ 60) (q3 : s0.natAbs < 2 ^ 60) (q4 : s1.natAbs < 2 ^ 60) (u1 : Bt 60 w0) (u2 : Bt 60 w1) (u3 : Bt 60 h0) (u4 : Bt 60 h1) : Cut w 262 10 news [.ref pa, .int bt t1] (OBool true) := by
  w_top off
  unfold Cut
  k_fill
  k_with_none
  k_with "ktr_room" => (first | exact dp_le (by with_reducible assumption) (by decide) | exact dp_le0 (by with_reducible assumption) (by decide) | exact Nat.lt_of_le_of_lt (Nat.le_add_right _ _) (by with_reducible assumption) | fail "room")
  k_with "ktr_units" => (first | exact un_le (by with_reducible assumption) (by decide) | exact un_le0 (by with_reducible assumption) (by decide) | exact Nat.lt_of_le_of_lt (Nat.le_add_right _ _) (by with_reducible assumption) | fail "units")
  k_with "k_slotset" => (intro p hp; repeat (first | exact hp | refine List.mem_cons_of_mem _ ?_))
  k_with "k_put" => (first | with_reducible rfl | omega | assumption | (simp only [Int.mul_one, Int.one_mul]; done) | (simp only [signV]; (repeat' split) <;> first | with_reducible rfl | omega) | k_extra "EQ")
  k_with "bits_by_make" => (first | with_reducible assumption | ((with_reducible apply bits_fracT); bits_by_make) | ((with_reducible apply bits_fracB); bits_by_make) | exact PySem.intBits_le_64 (by decide) (by decide) | exact PySem.intBits_le_64 (by omega) (by omega) | exact bits_lit200 (by decide +kernel) | fail "bits")
  k_with "k_slotget" => (first | exact List.mem_cons_self | with_reducible assumption | (refine' List.mem_cons_of_mem _ ?_; k_slotget) | fail "mem")
  k_with "subscriptTail Name Constant ref int" => (k_here; k_dflt (refine' item_tupleT (News.isTup ?zqn ?zqm) ?zqa ?zqb ?zqc ?zqd ?_; (case zqn => k_asm); (case zqm => k_slotget); (case zqa => decide); (case zqb => decide); (case zqc => exact rfl); (case zqd => exact rfl); k_whole))
  k_with "execs cons" => (with_reducible refine gen_toks3 (fun tk' => ?_))
  k_with "execs nil" => (with_reducible refine gen_toks3 (fun tk' => ?_))
  k_with "eval Name" => (k_here; k_dflt (first   | (refine' ld ?zqk1 ?zqk2 ?_; (case zqk1 => k_asm); (case zqk2 => exact rfl); k_whole)   | (refine' name_K ?zqkF ?zqk1 ?zqk2 ?zqk3 ?_; (case zqkF => k_asm); (case zqk1 => k_asm); (case zqk2 => k_asm); (case zqk3 => k_is); k_whole)))
  k_with "k_get" => (first | with_reducible assumption | k_slotget | exact Nat.le_trans (by with_reducible assumption) (by decide) | k_extra "P" | decide | omega | (refine intBits_le_64 ?_ ?_ <;> omega) | (exact Nat.le_trans (by bits_by_make) (by decide)) | assumption)
  k_with "ktd_handed" => (first | with_reducible assumption | decide | omega | k_extra "NZ")
  k_with "binaryOp FloorDiv int int" => (k_here; (with_reducible refine floordiv_int ?zqkbe ?_ (Or.inl (PyProof.noPylong_of_log2 ?zqkbp))); (case zqkbe => ktd_handed); (case zqkbp => exact log_of_bits (by bits_by_make) (by decide)))
  k_with "binaryOp Mod int int" => (k_here; (with_reducible refine mod_int' ?zqkbe ?_); (case zqkbe => ktd_handed))
  k_with "binaryOp Mod int int" => (with_reducible refine' mod_int_v ?zqhb ?zqe ?_; (case zqe => with_reducible assumption); (case zqhb => ktd_handed))
  k_with "binaryOp Mod int int" => (k_extra "MYMOD")
  k_with "binaryOp Mult int int" => (k_here; k_dflt (refine' PyProof.Rows.mul_int ?_ ?zqhm; (case zqhm => exact PyProof.Rows.mulOk_of_bits (by bits_by_make) (by bits_by_make) (by decide))))
  k_with "binaryOp Pow int int" => (with_reducible refine' pow2_int ?zqh ?_; (case zqh => first | with_reducible assumption | omega))
  k_with "exec Raise some none" => (exfalso; first | contradiction | omega)
  k_with "END" => (first   | (refine' ret_int ?zqh ?zqe ?zqF ?zqN ?zqsub; (case zqh => assumption); (case zqF => k_asm); (case zqN => k_asm); (case zqsub => k_slotset); (case zqe => k_put))   | (refine' ret_bool ?zqh ?zqe ?zqF ?zqN ?zqsub; (case zqh => assumption); (case zqF => k_asm); (case zqN => k_asm); (case zqsub => k_slotset); (case zqe => k_put))   | (refine' ret_pair ?zqh ?zqhm ?zqex ?zqey ?zqF ?zqN ?zqsub; (case zqh => assumption); (case zqF => k_asm); (case zqN => k_asm); (case zqsub => k_slotset); (case zqhm => k_slotget); (case zqex => k_put); (case zqey => k_put))   | (refine' ret_turn ?zqh ?zqhb ?zqhc ?zqhd ?zqe0 ?zqe1 ?zqe2 ?zqe3 ?zqF ?zqN ?zqsub; (case zqh => assumption); (case zqF => k_asm); (case zqN => k_asm); (case zqsub => k_slotset); (case zqhb => k_slotget); (case zqhc => k_slotget); (case zqhd => k_slotget); (case zqe0 => k_put); (case zqe1 => k_put); (case zqe2 => k_put); (case zqe3 => k_put)))
  k_with "exec While Compare cons nil" => (k_extra "MYWHILE")
  k_with "KswEnd" => (k_extra "MYTURN")
  k_with "x_auto" => (first | with_reducible assumption | omega | k_extra "FACT" | fail "fact")
  k_with "ite" => (first   | (with_reducible refine' ine_t ?zqh ?_; (case zqh => x_auto))   | (with_reducible refine' ine_f ?zqh ?_; (case zqh => x_auto))   | (with_reducible refine' ieq_t ?zqh ?_; (case zqh => x_auto))   | (with_reducible refine' ieq_f ?zqh ?_; (case zqh => x_auto))   | (with_reducible refine' dec_t ?zqh ?_; (case zqh => x_auto))   | (with_reducible refine' dec_f ?zqh ?_; (case zqh => x_auto)))
  k_with "eval BinOp" => (k_here; k_dflt (refine' IV.use ?zqd ?_; (case zqd => tb_rel); k_whole); intro t' tk')
  k_with "eval Tuple" => (k_here; k_dflt (refine' tup2 ?zqda ?zqdb ?zqF ?zqN ?_; (case zqda => tb_rel); (case zqdb => tb_rel); (case zqF => k_asm); (case zqN => k_asm); k_whole); intro D' t' u' h' tk' F' N' l1; (try k_lt l1); (try k_sweep))
  k_with "eval UnaryOp" => (k_here; k_dflt (refine' IV.use ?zqd ?_; (case zqd => tb_rel); k_whole); intro t' tk')
  k_with "eval Subscript" => (k_here; k_dflt (refine' IV.use ?zqd ?_; (case zqd => tb_rel); k_whole); intro t' tk')
  k_with "exec If" => (k_here; k_dflt (first | (refine' if_f ?zqd ?_; (case zqd => tb_rel); k_whole) | (refine' if_t ?zqd ?_; (case zqd => tb_rel); k_whole)); intro tk')
  k_with "OFFA" => (first | (refine' OffA.lt ?_; assumption) | (refine' OffA.cons ?zqc ?zqd; (case zqc => first | exact Or.inr (by k_cls) | exact Or.inl (by k_ne)); (case zqd => walk_at "OFFA")))
  k_with "WO" => (first | (refine' WO.here ?_; walk_at "OFFA") | (refine' WO.cons ?zqc ?zqd; (case zqc => first | exact Or.inr (by k_cls) | exact Or.inl (by k_ne)); (case zqd => walk_at "WO")))
  k_with "UnrEnd" => (refine' unr_end ?zqF ?zqN ?zqW ?_; (case zqF => k_asm); (case zqN => k_asm); (case zqW => walk_at "WO"))
  k_with "ENTER" => (refine' code_def ?zqk1 ?zqk2 ?zqk3 ?zqk4 ?zqk5 ?zqkA ?zqkF ?zqkK ?zqk6 ?zqk7 ?zqk8 ?zqk9 ?zqkB ?_ ?zqc2 ?zqc3 ?zqc4 ?zqc5; (case zqkA => exact rfl); (case zqkF => exact rfl); (case zqkK => assumption); (case zqk1 => k_asm); (case zqk2 => k_asm); (case zqk3 => k_asm); (case zqk4 => k_asm); (case zqk5 => k_asm); (case zqk6 => k_is); (case zqk7 => k_is); (case zqk8 => ktr_room); (case zqk9 => first | exact BindsTo.of_eq rfl | exact binds_K (by k_in) rfl (by k_is) rfl rfl rfl); (case zqc5 => decide); (case zqkB => exact locs rfl); (case zqc2 => exact rfl); (case zqc3 => exact rfl); (case zqc4 => exact rfl); k_whole; intro g' L' h' FG' F' N' B' X' T'; (try dsimp only); (try k_fold))
  k_with "subscriptTail List BinOp ref int" => (k_here; k_dflt (refine' item_listN ?zqn ?zqm ?zqa ?zqb ?zqc ?_; (case zqn => k_asm); (case zqm => k_slotget); (case zqa => first | decide | omega); (case zqb => first | decide | omega); (case zqc => exact rfl); k_whole))
  k_with "compareOp NotEq ref ref" => (k_here; (with_reducible show wpAny _ _ (compareOp CmpOp.NotEq (Value.ref _) (Value.ref _)) _ _ _); k_dflt (refine' cmp_turn_ne ?zqN ?zqha ?zqhc ?zqhd ?zqhA ?zqhC ?zqhD ?zqe0 ?zqe1 ?zqe2 ?zqe3 ?zqhu ?_; (case zqN => k_asm); (case zqha => k_slotget); (case zqhc => k_slotget); (case zqhd => k_slotget); (case zqhA => k_slotget); (case zqhC => k_slotget); (case zqhD => k_slotget); (case zqe0 => k_put); (case zqe1 => k_put); (case zqe2 => k_put); (case zqe3 => k_put); (case zqhu => ktr_units); k_whole))
  k_with "compareOp Eq ref ref" => (k_here; (with_reducible show wpAny _ _ (compareOp CmpOp.Eq (Value.ref _) (Value.ref _)) _ _ _); k_dflt (refine' cmp_pair_eq ?zqN ?zqhc ?zqhC ?zqe0 ?zqe1 ?zqhu ?_; (case zqN => k_asm); (case zqhc => k_slotget); (case zqhC => k_slotget); (case zqe0 => k_put); (case zqe1 => k_put); (case zqhu => ktr_units); k_whole))
  k_with "compareOp Eq ref ref" => (k_here; (with_reducible show wpAny _ _ (compareOp CmpOp.Eq (Value.ref _) (Value.ref _)) _ _ _); k_dflt (refine' cmp_turn_eq ?zqN ?zqha ?zqhc ?zqhd ?zqhA ?zqhC ?zqhD ?zqe0 ?zqe1 ?zqe2 ?zqe3 ?zqhu ?_; (case zqN => k_asm); (case zqha => k_slotget); (case zqhc => k_slotget); (case zqhd => k_slotget); (case zqhA => k_slotget); (case zqhC => k_slotget); (case zqhD => k_slotget); (case zqe0 => k_put); (case zqe1 => k_put); (case zqe2 => k_put); (case zqe3 => k_put); (case zqhu => ktr_units); k_whole))
  k_with "call ref" => (k_here; k_dflt (refine' use_turn (cut_turn ?zqp0 ?zqp1 ?zqp2 ?zqp3 ?zqp4 ?zqp5 ?zqp6) ?zqk1 ?zqk2 ?zqk3 ?zqk4 ?zqk5 ?zqkK ?zqkd ?zqku ?_; (case zqk1 => k_asm); (case zqk2 => k_asm); (case zqk3 => k_asm); (case zqk4 => k_asm); (case zqk5 => k_asm); (case zqkK => first | exact rfl | assumption); (case zqp0 => k_get); (case zqp1 => k_get); (case zqp2 => k_get); (case zqp3 => k_get); (case zqp4 => k_get); (case zqp5 => k_get); (case zqp6 => k_get); (case zqkd => ktr_room); (case zqku => ktr_units); k_whole; intro a' c' d' t' u' v' z' h' tk' F' N'; (try k_sweep); (try dsimp only); (try k_fold)))
  k_with "call ref" => (k_here; k_dflt (refine' use_bool (cut_is_near ?zqp0 ?zqp1 ?zqp2 ?zqp3 ?zqp4 ?zqp5 ?zqp6 ?zqp7 ?zqp8) ?zqk1 ?zqk2 ?zqk3 ?zqk4 ?zqk5 ?zqkK ?zqkd ?zqku ?_; (case zqk1 => k_asm); (case zqk2 => k_asm); (case zqk3 => k_asm); (case zqk4 => k_asm); (case zqk5 => k_asm); (case zqkK => first | exact rfl | assumption); (case zqp0 => k_get); (case zqp1 => k_get); (case zqp2 => k_get); (case zqp3 => k_get); (case zqp4 => k_get); (case zqp5 => k_get); (case zqp6 => k_get); (case zqp7 => k_get); (case zqp8 => k_get); (case zqkd => ktr_room); (case zqku => ktr_units); k_whole; intro h' tk' F' N'; (try k_sweep); (try dsimp only); (try k_fold)))
  k_with "call ref" => (k_here; k_dflt (refine' use_pair (cut_fractionE ?zqp0 ?zqp1 ?zqp2 ?zqp3) ?zqk1 ?zqk2 ?zqk3 ?zqk4 ?zqk5 ?zqkK ?zqkd ?zqku ?_; (case zqk1 => k_asm); (case zqk2 => k_asm); (case zqk3 => k_asm); (case zqk4 => k_asm); (case zqk5 => k_asm); (case zqkK => first | exact rfl | assumption); (case zqp0 => k_get); (case zqp1 => k_get); (case zqp2 => k_get); (case zqp3 => k_get); (case zqkd => ktr_room); (case zqku => ktr_units); k_whole; intro a' t' u' h' tk' F' N'; (try k_sweep); (try dsimp only); (try k_fold)))
  intro mean mg mb dp un gd cn cs c ccd cl outer A₀ base h₀ L m s Q E B F X N T hk hd hu hret
  have b1 := bits_of_lt q1
  have b2 := bits_of_lt q2
  have b3 := bits_of_lt q3
  have b4 := bits_of_lt q4
  walk_at "WALK"
set_option maxHeartbeats 4000000 in
theorem cut_known {w : World} {news : List (Addr × Obj)} {bt c0 c1 s0 s1 : Int} {t1 : Tok} (H0 : toR 30 1 bt = some (c0, c1, s0, s1)) (hn1 : (((s0 * 2 - 1 * s1).natAbs : Nat) : Int) * bt ≤ 1 * (s1 * 2)) (hn2 : (((c0 * c0 * 4 - 3 * (c1 * c1)).natAbs : Nat) : Int) * bt ≤ 3 * (c1 * c1 * 4)) (hbt : 0 < bt) (z3 : Bt 60 bt) (w1 : c0.natAbs < 2 ^ 60) (w2 : c1.natAbs < 2 ^ 60) (w3 : s0.natAbs < 2 ^ 60) (w4 : s1.natAbs < 2 ^ 60) : Cut w 269 10 news [.int bt t1] (OBool true) := by
  unfold Cut
  k_fill
  k_with_none
  k_with "ktr_room" => (first | exact dp_le (by with_reducible assumption) (by decide) | exact dp_le0 (by with_reducible assumption) (by decide) | exact Nat.lt_of_le_of_lt (Nat.le_add_right _ _) (by with_reducible assumption) | fail "room")
  k_with "ktr_units" => (first | exact un_le (by with_reducible assumption) (by decide) | exact un_le0 (by with_reducible assumption) (by decide) | exact Nat.lt_of_le_of_lt (Nat.le_add_right _ _) (by with_reducible assumption) | fail "units")
  k_with "k_slotset" => (intro p hp; repeat (first | exact hp | refine List.mem_cons_of_mem _ ?_))
  k_with "k_put" => (first | with_reducible rfl | omega | assumption | (simp only [Int.mul_one, Int.one_mul]; done) | (simp only [signV]; (repeat' split) <;> first | with_reducible rfl | omega) | k_extra "EQ")
  k_with "bits_by_make" => (first | with_reducible assumption | ((with_reducible apply bits_fracT); bits_by_make) | ((with_reducible apply bits_fracB); bits_by_make) | exact PySem.intBits_le_64 (by decide) (by decide) | exact PySem.intBits_le_64 (by omega) (by omega) | exact bits_lit200 (by decide +kernel) | fail "bits")
  k_with "k_slotget" => (first | exact List.mem_cons_self | with_reducible assumption | (refine' List.mem_cons_of_mem _ ?_; k_slotget) | fail "mem")
  k_with "subscriptTail Name Constant ref int" => (k_here; k_dflt (refine' item_tupleT (News.isTup ?zqn ?zqm) ?zqa ?zqb ?zqc ?zqd ?_; (case zqn => k_asm); (case zqm => k_slotget); (case zqa => decide); (case zqb => decide); (case zqc => exact rfl); (case zqd => exact rfl); k_whole))
  k_with "execs cons" => (with_reducible refine gen_toks3 (fun tk' => ?_))
  k_with "execs nil" => (with_reducible refine gen_toks3 (fun tk' => ?_))
  k_with "eval Name" => (k_here; k_dflt (first   | (refine' ld ?zqk1 ?zqk2 ?_; (case zqk1 => k_asm); (case zqk2 => exact rfl); k_whole)   | (refine' name_K ?zqkF ?zqk1 ?zqk2 ?zqk3 ?_; (case zqkF => k_asm); (case zqk1 => k_asm); (case zqk2 => k_asm); (case zqk3 => k_is); k_whole)))
  k_with "k_get" => (first | with_reducible assumption | k_slotget | exact Nat.le_trans (by with_reducible assumption) (by decide) | k_extra "P" | decide | omega | (refine intBits_le_64 ?_ ?_ <;> omega) | (exact Nat.le_trans (by bits_by_make) (by decide)) | assumption)
  k_with "ktd_handed" => (first | with_reducible assumption | decide | omega | k_extra "NZ")
  k_with "binaryOp FloorDiv int int" => (k_here; (with_reducible refine floordiv_int ?zqkbe ?_ (Or.inl (PyProof.noPylong_of_log2 ?zqkbp))); (case zqkbe => ktd_handed); (case zqkbp => exact log_of_bits (by bits_by_make) (by decide)))
  k_with "binaryOp Mod int int" => (k_here; (with_reducible refine mod_int' ?zqkbe ?_); (case zqkbe => ktd_handed))
  k_with "binaryOp Mod int int" => (with_reducible refine' mod_int_v ?zqhb ?zqe ?_; (case zqe => with_reducible assumption); (case zqhb => ktd_handed))
  k_with "binaryOp Mod int int" => (k_extra "MYMOD")
  k_with "binaryOp Mult int int" => (k_here; k_dflt (refine' PyProof.Rows.mul_int ?_ ?zqhm; (case zqhm => exact PyProof.Rows.mulOk_of_bits (by bits_by_make) (by bits_by_make) (by decide))))
  k_with "binaryOp Pow int int" => (with_reducible refine' pow2_int ?zqh ?_; (case zqh => first | with_reducible assumption | omega))
  k_with "exec Raise some none" => (exfalso; first | contradiction | omega)
  k_with "END" => (first   | (refine' ret_int ?zqh ?zqe ?zqF ?zqN ?zqsub; (case zqh => assumption); (case zqF => k_asm); (case zqN => k_asm); (case zqsub => k_slotset); (case zqe => k_put))   | (refine' ret_bool ?zqh ?zqe ?zqF ?zqN ?zqsub; (case zqh => assumption); (case zqF => k_asm); (case zqN => k_asm); (case zqsub => k_slotset); (case zqe => k_put))   | (refine' ret_pair ?zqh ?zqhm ?zqex ?zqey ?zqF ?zqN ?zqsub; (case zqh => assumption); (case zqF => k_asm); (case zqN => k_asm); (case zqsub => k_slotset); (case zqhm => k_slotget); (case zqex => k_put); (case zqey => k_put))   | (refine' ret_turn ?zqh ?zqhb ?zqhc ?zqhd ?zqe0 ?zqe1 ?zqe2 ?zqe3 ?zqF ?zqN ?zqsub; (case zqh => assumption); (case zqF => k_asm); (case zqN => k_asm); (case zqsub => k_slotset); (case zqhb => k_slotget); (case zqhc => k_slotget); (case zqhd => k_slotget); (case zqe0 => k_put); (case zqe1 => k_put); (case zqe2 => k_put); (case zqe3 => k_put)))
  k_with "exec While Compare cons nil" => (k_extra "MYWHILE")
  k_with "KswEnd" => (k_extra "MYTURN")
  k_with "x_auto" => (first | with_reducible assumption | omega | k_extra "FACT" | fail "fact")
  k_with "ite" => (first   | (with_reducible refine' ine_t ?zqh ?_; (case zqh => x_auto))   | (with_reducible refine' ine_f ?zqh ?_; (case zqh => x_auto))   | (with_reducible refine' ieq_t ?zqh ?_; (case zqh => x_auto))   | (with_reducible refine' ieq_f ?zqh ?_; (case zqh => x_auto))   | (with_reducible refine' dec_t ?zqh ?_; (case zqh => x_auto))   | (with_reducible refine' dec_f ?zqh ?_; (case zqh => x_auto)))
  k_with "eval BinOp" => (k_here; k_dflt (refine' IV.use ?zqd ?_; (case zqd => tb_rel); k_whole); intro t' tk')
  k_with "eval Tuple" => (k_here; k_dflt (refine' tup2 ?zqda ?zqdb ?zqF ?zqN ?_; (case zqda => tb_rel); (case zqdb => tb_rel); (case zqF => k_asm); (case zqN => k_asm); k_whole); intro D' t' u' h' tk' F' N' l1; (try k_lt l1); (try k_sweep))
  k_with "eval UnaryOp" => (k_here; k_dflt (refine' IV.use ?zqd ?_; (case zqd => tb_rel); k_whole); intro t' tk')
  k_with "eval Subscript" => (k_here; k_dflt (refine' IV.use ?zqd ?_; (case zqd => tb_rel); k_whole); intro t' tk')
  k_with "exec If" => (k_here; k_dflt (first | (refine' if_f ?zqd ?_; (case zqd => tb_rel); k_whole) | (refine' if_t ?zqd ?_; (case zqd => tb_rel); k_whole)); intro tk')
  k_with "OFFA" => (first | (refine' OffA.lt ?_; assumption) | (refine' OffA.cons ?zqc ?zqd; (case zqc => first | exact Or.inr (by k_cls) | exact Or.inl (by k_ne)); (case zqd => walk_at "OFFA")))
  k_with "WO" => (first | (refine' WO.here ?_; walk_at "OFFA") | (refine' WO.cons ?zqc ?zqd; (case zqc => first | exact Or.inr (by k_cls) | exact Or.inl (by k_ne)); (case zqd => walk_at "WO")))
  k_with "UnrEnd" => (refine' unr_end ?zqF ?zqN ?zqW ?_; (case zqF => k_asm); (case zqN => k_asm); (case zqW => walk_at "WO"))
  k_with "ENTER" => (refine' code_def ?zqk1 ?zqk2 ?zqk3 ?zqk4 ?zqk5 ?zqkA ?zqkF ?zqkK ?zqk6 ?zqk7 ?zqk8 ?zqk9 ?zqkB ?_ ?zqc2 ?zqc3 ?zqc4 ?zqc5; (case zqkA => exact rfl); (case zqkF => exact rfl); (case zqkK => assumption); (case zqk1 => k_asm); (case zqk2 => k_asm); (case zqk3 => k_asm); (case zqk4 => k_asm); (case zqk5 => k_asm); (case zqk6 => k_is); (case zqk7 => k_is); (case zqk8 => ktr_room); (case zqk9 => first | exact BindsTo.of_eq rfl | exact binds_K (by k_in) rfl (by k_is) rfl rfl rfl); (case zqc5 => decide); (case zqkB => exact locs rfl); (case zqc2 => exact rfl); (case zqc3 => exact rfl); (case zqc4 => exact rfl); k_whole; intro g' L' h' FG' F' N' B' X' T'; (try dsimp only); (try k_fold))
  k_with "subscriptTail List BinOp ref int" => (k_here; k_dflt (refine' item_listN ?zqn ?zqm ?zqa ?zqb ?zqc ?_; (case zqn => k_asm); (case zqm => k_slotget); (case zqa => first | decide | omega); (case zqb => first | decide | omega); (case zqc => exact rfl); k_whole))
  k_with "compareOp NotEq ref ref" => (k_here; (with_reducible show wpAny _ _ (compareOp CmpOp.NotEq (Value.ref _) (Value.ref _)) _ _ _); k_dflt (refine' cmp_turn_ne ?zqN ?zqha ?zqhc ?zqhd ?zqhA ?zqhC ?zqhD ?zqe0 ?zqe1 ?zqe2 ?zqe3 ?zqhu ?_; (case zqN => k_asm); (case zqha => k_slotget); (case zqhc => k_slotget); (case zqhd => k_slotget); (case zqhA => k_slotget); (case zqhC => k_slotget); (case zqhD => k_slotget); (case zqe0 => k_put); (case zqe1 => k_put); (case zqe2 => k_put); (case zqe3 => k_put); (case zqhu => ktr_units); k_whole))
  k_with "compareOp Eq ref ref" => (k_here; (with_reducible show wpAny _ _ (compareOp CmpOp.Eq (Value.ref _) (Value.ref _)) _ _ _); k_dflt (refine' cmp_pair_eq ?zqN ?zqhc ?zqhC ?zqe0 ?zqe1 ?zqhu ?_; (case zqN => k_asm); (case zqhc => k_slotget); (case zqhC => k_slotget); (case zqe0 => k_put); (case zqe1 => k_put); (case zqhu => ktr_units); k_whole))
  k_with "compareOp Eq ref ref" => (k_here; (with_reducible show wpAny _ _ (compareOp CmpOp.Eq (Value.ref _) (Value.ref _)) _ _ _); k_dflt (refine' cmp_turn_eq ?zqN ?zqha ?zqhc ?zqhd ?zqhA ?zqhC ?zqhD ?zqe0 ?zqe1 ?zqe2 ?zqe3 ?zqhu ?_; (case zqN => k_asm); (case zqha => k_slotget); (case zqhc => k_slotget); (case zqhd => k_slotget); (case zqhA => k_slotget); (case zqhC => k_slotget); (case zqhD => k_slotget); (case zqe0 => k_put); (case zqe1 => k_put); (case zqe2 => k_put); (case zqe3 => k_put); (case zqhu => ktr_units); k_whole))
  k_with "call ref" => (k_here; k_dflt (refine' use_turn (cut_turn ?zqp0 ?zqp1 ?zqp2 ?zqp3 ?zqp4 ?zqp5 ?zqp6) ?zqk1 ?zqk2 ?zqk3 ?zqk4 ?zqk5 ?zqkK ?zqkd ?zqku ?_; (case zqk1 => k_asm); (case zqk2 => k_asm); (case zqk3 => k_asm); (case zqk4 => k_asm); (case zqk5 => k_asm); (case zqkK => first | exact rfl | assumption); (case zqp0 => k_get); (case zqp1 => k_get); (case zqp2 => k_get); (case zqp3 => k_get); (case zqp4 => k_get); (case zqp5 => k_get); (case zqp6 => k_get); (case zqkd => ktr_room); (case zqku => ktr_units); k_whole; intro a' c' d' t' u' v' z' h' tk' F' N'; (try k_sweep); (try dsimp only); (try k_fold)))
  k_with "call ref" => (k_here; k_dflt (refine' use_bool (cut_is_near ?zqp0 ?zqp1 ?zqp2 ?zqp3 ?zqp4 ?zqp5 ?zqp6 ?zqp7 ?zqp8) ?zqk1 ?zqk2 ?zqk3 ?zqk4 ?zqk5 ?zqkK ?zqkd ?zqku ?_; (case zqk1 => k_asm); (case zqk2 => k_asm); (case zqk3 => k_asm); (case zqk4 => k_asm); (case zqk5 => k_asm); (case zqkK => first | exact rfl | assumption); (case zqp0 => k_get); (case zqp1 => k_get); (case zqp2 => k_get); (case zqp3 => k_get); (case zqp4 => k_get); (case zqp5 => k_get); (case zqp6 => k_get); (case zqp7 => k_get); (case zqp8 => k_get); (case zqkd => ktr_room); (case zqku => ktr_units); k_whole; intro h' tk' F' N'; (try k_sweep); (try dsimp only); (try k_fold)))
  k_with "call ref" => (k_here; k_dflt (refine' use_pair (cut_fractionE ?zqp0 ?zqp1 ?zqp2 ?zqp3) ?zqk1 ?zqk2 ?zqk3 ?zqk4 ?zqk5 ?zqkK ?zqkd ?zqku ?_; (case zqk1 => k_asm); (case zqk2 => k_asm); (case zqk3 => k_asm); (case zqk4 => k_asm); (case zqk5 => k_asm); (case zqkK => first | exact rfl | assumption); (case zqp0 => k_get); (case zqp1 => k_get); (case zqp2 => k_get); (case zqp3 => k_get); (case zqkd => ktr_room); (case zqku => ktr_units); k_whole; intro a' t' u' h' tk' F' N'; (try k_sweep); (try dsimp only); (try k_fold)))
  intro mean mg mb dp un gd cn cs c ccd cl outer A₀ base h₀ L m s Q E B F X N T hk hd hu hret
  have b1 := bits_of_lt w1
  have b2 := bits_of_lt w2
  have b3 := bits_of_lt w3
  have b4 := bits_of_lt w4
  walk_at "WALK"
end
section
def Src (o : Obj) (a b : Int) (t u : Tok) : Prop := o.cls = .type "list" ∧ ∃ n, o.data = .seq #[.int a t, .int b u] n
structure SrcOk (a b : Int) : Prop where
  a0 : 0 ≤ a
  ab : PySem.Builtin.Int.intBits a ≤ 2 ^ 21
  b0 : 0 ≤ b
  b1 : b < 2147483647

def CutS (w : World) (f : Addr) (k : Nat) (l : Addr) (a b : Int) (news : List (Addr × Obj)) (vs : List Value) (Out : Value → List (Addr × Obj) → Prop) : Prop :=
  ∀ (o : Obj) (ta tb : Tok) (mean : ExcName → Option Value) (mg mb : PySem.Str → Option Value) (dp un : Nat) (gd : Option (List Code)) (cn : PySem.Str) (cs : Scope) (c : Addr) (ccd : Value) (cl : List (PySem.Str × Addr)) (outer : List Env) (A₀ : Around) (base h₀ : Heap) (L : Addr) (m : PySem.Str → Option Value) (s : Shared) (Q E : Value → Shared → Prop),
    Src o a b ta tb → (∀ p ∈ news, p.1 ≠ l) →
    Below A₀ base outer h₀ → Fr h₀ L s.heap m → (hd.heap_39 w.params).In h₀ → News h₀ L s.heap ((l, o) :: news) → Top hd.view_39 LS mean mg mb h₀ → cs.kind = .function → dp + k < recursionLimit → un + 8 * k < cLine →
    (∀ r o' a' b' ta' tb' tl h' tk', Src o' a' b' ta' tb' → SrcOk a' b' → (∀ p ∈ tl, p.2.cls = .type "tuple") → Fr h₀ L h' m → News h₀ L h' (tl ++ (l, o') :: news) → Out r tl → Q r { s with heap := h', toks := tk' }) →
    wpAny (model PySem.Challenge.rw_nu0010_01.row.prog w) (ktrTop dp un gd cn cs L c ccd cl outer) (call (.ref f) vs) Q E s

def OutI (P : Int → Prop) (r : Value) (tl : List (Addr × Obj)) : Prop := tl = [] ∧ ∃ x t, r = .int x t ∧ P x
def OutV (vs : List Value) (r : Value) (tl : List (Addr × Obj)) : Prop := tl = [] ∧ r ∈ vs
def OutD (P : Int → Int → Prop) (r : Value) (tl : List (Addr × Obj)) : Prop := ∃ x y a t u, r = .ref a ∧ tl = [(a, pairObj (.int x t) (.int y u))] ∧ P x y

section
variable {prog : Program} {w : World} {A : Around} {E : Value → Shared → Prop} {s : Shared} {value slice : PySem.Expr} {h₀ : Heap} {L l : Addr} {news rest big : List (Addr × Obj)} {m : PySem.Str → Option Value} {o : Obj} {a b : Int} {t u : Tok}
theorem Src.isList (N : News h₀ L s.heap news) (hm : (l, o) ∈ news) (S : Src o a b t u) : s.heap.IsList l #[.int a t, .int b u] := ⟨o, N.get hm, S.1, S.2⟩
theorem src_item0 {k : Tok} {Q : Value → Shared → Prop} (N : News h₀ L s.heap news) (hm : (l, o) ∈ news) (S : Src o a b t u) (h : Q (.int a t) s)
    (hs : subscripted slice false (.ref l) (.int 0 k) = operate [.ref l, .int 0 k] (getItem (.ref l) (.int 0 k)) := by with_unfolding_all rfl) :
    wpAny (model prog w) A (subscriptTail value slice (.ref l) (.int 0 k)) Q E s :=
  have hl := Src.isList N hm S
  tail_any hl.typeIs slot_list_getitem.lookup (wpAny_getItem_list hl (by decide) (by decide) rfl h) hs
theorem src_item1 {k : Tok} {Q : Value → Shared → Prop} (N : News h₀ L s.heap news) (hm : (l, o) ∈ news) (S : Src o a b t u) (h : Q (.int b u) s)
    (hs : subscripted slice false (.ref l) (.int 1 k) = operate [.ref l, .int 1 k] (getItem (.ref l) (.int 1 k)) := by with_unfolding_all rfl) :
    wpAny (model prog w) A (subscriptTail value slice (.ref l) (.int 1 k)) Q E s :=
  have hl := Src.isList N hm S
  tail_any hl.typeIs slot_list_getitem.lookup (wpAny_getItem_list hl (by decide) (by decide) rfl h) hs
theorem src_set0 {x : Int} {v k : Tok} {Q : Unit → Shared → Prop} (F : Fr h₀ L s.heap m) (N : News h₀ L s.heap ((l, o) :: rest)) (S : Src o a b t u) (hne : ∀ p ∈ rest, p.1 ≠ l)
    (h : ∀ h' o', Fr h₀ L h' m → News h₀ L h' ((l, o') :: rest) → Src o' x b v u → Q () { s with heap := h' }) :
    wpAny (model prog w) A (setItem (.ref l) (.int 0 k) (.int x v)) Q E s := by
  have hm := N (l, o) List.mem_cons_self
  refine wpAny_setItem_list (Src.isList N List.mem_cons_self S) (by decide) (by decide) (by simp) fun h' hl hs => ?_
  obtain ⟨o', ho', hc', hd'⟩ := hl
  have N0 : News h₀ L s.heap ([] ++ (l, o) :: rest) := N
  exact h h' o' (F.change hs hm.2.1 hm.2.2) (N0.setIn (fun _ hp => nomatch hp) hne hs ho') ⟨hc', hd'⟩
theorem src_set1 {x : Int} {v k : Tok} {Q : Unit → Shared → Prop} (F : Fr h₀ L s.heap m) (N : News h₀ L s.heap ((l, o) :: rest)) (S : Src o a b t u) (hne : ∀ p ∈ rest, p.1 ≠ l)
    (h : ∀ h' o', Fr h₀ L h' m → News h₀ L h' ((l, o') :: rest) → Src o' a x t v → Q () { s with heap := h' }) :
    wpAny (model prog w) A (setItem (.ref l) (.int 1 k) (.int x v)) Q E s := by
  have hm := N (l, o) List.mem_cons_self
  refine wpAny_setItem_list (Src.isList N List.mem_cons_self S) (by decide) (by decide) (by simp) fun h' hl hs => ?_
  obtain ⟨o', ho', hc', hd'⟩ := hl
  have N0 : News h₀ L s.heap ([] ++ (l, o) :: rest) := N
  exact h h' o' (F.change hs hm.2.1 hm.2.2) (N0.setIn (fun _ hp => nomatch hp) hne hs ho') ⟨hc', hd'⟩
end

section
variable {l : Addr} {news big tl : List (Addr × Obj)} {h₀ : Heap} {L : Addr} {m : PySem.Str → Option Value} {s : Shared} {Q : Value → Shared → Prop} {Out : Value → List (Addr × Obj) → Prop}
theorem retS0 {o' : Obj} {a' b' : Int} {ta' tb' : Tok} {r : Value} {h' : Heap} {tk' : Nat}
    (hret : ∀ r o' a' b' ta' tb' tl h' tk', Src o' a' b' ta' tb' → SrcOk a' b' → (∀ p ∈ tl, p.2.cls = .type "tuple") → Fr h₀ L h' m → News h₀ L h' (tl ++ (l, o') :: news) → Out r tl → Q r { s with heap := h', toks := tk' })
    (S : Src o' a' b' ta' tb') (So : SrcOk a' b') (F : Fr h₀ L h' m) (N : News h₀ L h' big) (hl : (l, o') ∈ big) (sub : ∀ p ∈ news, p ∈ big) (O : Out r []) : Q r { s with heap := h', toks := tk' } :=
  hret r o' a' b' ta' tb' [] h' tk' S So (fun _ hp => nomatch hp) F (fun p hp => by
    rcases List.mem_cons.mp hp with rfl | hp
    · exact N _ hl
    · exact N p (sub p hp)) O
theorem retSP {o' : Obj} {a' b' : Int} {ta' tb' t u : Tok} {x y : Int} {c : Addr} {h' : Heap} {tk' : Nat} {P : Int → Int → Prop}
    (hret : ∀ r o' a' b' ta' tb' tl h' tk', Src o' a' b' ta' tb' → SrcOk a' b' → (∀ p ∈ tl, p.2.cls = .type "tuple") → Fr h₀ L h' m → News h₀ L h' (tl ++ (l, o') :: news) → OutD P r tl → Q r { s with heap := h', toks := tk' })
    (S : Src o' a' b' ta' tb') (So : SrcOk a' b') (F : Fr h₀ L h' m) (N : News h₀ L h' big) (hl : (l, o') ∈ big) (sub : ∀ p ∈ news, p ∈ big) (hc : (c, pairObj (.int x t) (.int y u)) ∈ big) (O : P x y) : Q (.ref c) { s with heap := h', toks := tk' } :=
  hret (.ref c) o' a' b' ta' tb' [(c, pairObj (.int x t) (.int y u))] h' tk' S So (fun p hp => by rw [List.mem_singleton.mp hp]) F (fun p hp => by
    rcases List.mem_cons.mp hp with rfl | hp
    · exact N _ hc
    rcases List.mem_cons.mp hp with rfl | hp
    · exact N _ hl
    · exact N p (sub p hp)) ⟨x, y, c, t, u, rfl, rfl, O⟩
end
def WS (l : Addr) (big rest : List (Addr × Obj)) : Prop := (∀ p ∈ rest, p ∈ big) ∧ ∀ p ∈ rest, p.1 ≠ l ∨ p.2.cls = .type "tuple"
theorem WS.tail {l : Addr} {r : List (Addr × Obj)} (h : ∀ p ∈ r, p.1 ≠ l) : WS l r r := ⟨fun _ h => h, fun p hp => .inl (h p hp)⟩
theorem WS.skip {l : Addr} {q : Addr × Obj} {r rest : List (Addr × Obj)} (h : WS l r rest) : WS l (q :: r) rest := ⟨fun p hp => List.mem_cons_of_mem _ (h.1 p hp), h.2⟩
theorem WS.keep {l : Addr} {q : Addr × Obj} {r rest : List (Addr × Obj)} (hq : q.1 ≠ l ∨ q.2.cls = .type "tuple") (h : WS l r rest) : WS l (q :: r) (q :: rest) := by
  refine ⟨fun p hp => ?_, fun p hp => ?_⟩
  · rcases List.mem_cons.mp hp with rfl | hp
    · exact List.mem_cons_self
    · exact List.mem_cons_of_mem _ (h.1 p hp)
  · rcases List.mem_cons.mp hp with rfl | hp
    · exact hq
    · exact h.2 p hp
section
variable {w : World} {f : Addr} {k : Nat} {l : Addr} {a b : Int} {news big : List (Addr × Obj)} {vs : List Value} {Out : Value → List (Addr × Obj) → Prop} {mean : ExcName → Option Value} {mg mb : PySem.Str → Option Value} {dp un : Nat} {gd : Option (List Code)} {cn : PySem.Str} {cs : Scope} {c : Addr} {ccd : Value} {cl : List (PySem.Str × Addr)} {outer : List Env} {A₀ : Around} {base h₀ h : Heap} {L : Addr} {m : PySem.Str → Option Value} {s : Shared} {Q E : Value → Shared → Prop} {o : Obj} {ta tb : Tok}
theorem WS.ne {h : Heap} (W : WS l big news) (N : News h₀ L h big) (hl : (l, o) ∈ big) (S : Src o a b ta tb) : ∀ p ∈ news, p.1 ≠ l := fun p hp e => by
  rcases W.2 p hp with h | h
  · exact h e
  · have h1 := (N _ (W.1 p hp)).1
    have h2 := (N _ hl).1
    rw [e] at h1
    have h3 : p.2.cls = o.cls := congrArg Obj.cls (Option.some.inj (h1.symm.trans h2))
    rw [h, S.1] at h3
    exact absurd (Value.type.inj h3) (by decide)
theorem use_takeI {P : Int → Prop} (C : CutS w f k l a b news vs (OutI P)) (B : Below A₀ base outer h₀) (F : Fr h₀ L s.heap m) (X : (hd.heap_39 w.params).In h₀) (N : News h₀ L s.heap big) (T : Top hd.view_39 LS mean mg mb h₀) (hk : cs.kind = .function) (hdp : dp + k < recursionLimit) (hun : un + 8 * k < cLine)
    (S : Src o a b ta tb) (hl : (l, o) ∈ big) (W : WS l big news)
    (h : ∀ x t o' a' b' ta' tb' h' tk', P x → Src o' a' b' ta' tb' → SrcOk a' b' → (∀ p ∈ news, p.1 ≠ l) → Fr h₀ L h' m → News h₀ L h' ((l, o') :: news) → Q (.int x t) { s with heap := h', toks := tk' }) :
    wpAny (model PySem.Challenge.rw_nu0010_01.row.prog w) (ktrTop dp un gd cn cs L c ccd cl outer) (call (.ref f) vs) Q E s :=
  C o ta tb _ _ _ _ _ _ _ _ _ _ _ _ _ _ _ _ _ _ _ _ S (W.ne N hl S) B F X (fun p hp => by
    rcases List.mem_cons.mp hp with rfl | hp
    · exact N _ hl
    · exact N p (W.1 p hp)) T hk hdp hun fun r o' a' b' ta' tb' tl h' tk' S' So' _ F' N' O => by
    obtain ⟨rfl, x, t, rfl, p⟩ := O
    exact h x t o' a' b' ta' tb' h' tk' p S' So' (W.ne N hl S) F' N'
theorem use_takeV {us : List Value} (C : CutS w f k l a b news vs (OutV us)) (B : Below A₀ base outer h₀) (F : Fr h₀ L s.heap m) (X : (hd.heap_39 w.params).In h₀) (N : News h₀ L s.heap big) (T : Top hd.view_39 LS mean mg mb h₀) (hk : cs.kind = .function) (hdp : dp + k < recursionLimit) (hun : un + 8 * k < cLine)
    (S : Src o a b ta tb) (hl : (l, o) ∈ big) (W : WS l big news)
    (h : ∀ r o' a' b' ta' tb' h' tk', r ∈ us → Src o' a' b' ta' tb' → SrcOk a' b' → (∀ p ∈ news, p.1 ≠ l) → Fr h₀ L h' m → News h₀ L h' ((l, o') :: news) → Q r { s with heap := h', toks := tk' }) :
    wpAny (model PySem.Challenge.rw_nu0010_01.row.prog w) (ktrTop dp un gd cn cs L c ccd cl outer) (call (.ref f) vs) Q E s :=
  C o ta tb _ _ _ _ _ _ _ _ _ _ _ _ _ _ _ _ _ _ _ _ S (W.ne N hl S) B F X (fun p hp => by
    rcases List.mem_cons.mp hp with rfl | hp
    · exact N _ hl
    · exact N p (W.1 p hp)) T hk hdp hun fun r o' a' b' ta' tb' tl h' tk' S' So' _ F' N' O => by
    obtain ⟨rfl, p⟩ := O
    exact h r o' a' b' ta' tb' h' tk' p S' So' (W.ne N hl S) F' N'
theorem use_takeD {P : Int → Int → Prop} (C : CutS w f k l a b news vs (OutD P)) (B : Below A₀ base outer h₀) (F : Fr h₀ L s.heap m) (X : (hd.heap_39 w.params).In h₀) (N : News h₀ L s.heap big) (T : Top hd.view_39 LS mean mg mb h₀) (hk : cs.kind = .function) (hdp : dp + k < recursionLimit) (hun : un + 8 * k < cLine)
    (S : Src o a b ta tb) (hl : (l, o) ∈ big) (W : WS l big news)
    (h : ∀ x y c t u o' a' b' ta' tb' h' tk', P x y → Src o' a' b' ta' tb' → SrcOk a' b' → (∀ p ∈ news, p.1 ≠ l) → Fr h₀ L h' m → News h₀ L h' ((c, pairObj (.int x t) (.int y u)) :: (l, o') :: news) → Q (.ref c) { s with heap := h', toks := tk' }) :
    wpAny (model PySem.Challenge.rw_nu0010_01.row.prog w) (ktrTop dp un gd cn cs L c ccd cl outer) (call (.ref f) vs) Q E s :=
  C o ta tb _ _ _ _ _ _ _ _ _ _ _ _ _ _ _ _ _ _ _ _ S (W.ne N hl S) B F X (fun p hp => by
    rcases List.mem_cons.mp hp with rfl | hp
    · exact N _ hl
    · exact N p (W.1 p hp)) T hk hdp hun fun r o' a' b' ta' tb' tl h' tk' S' So' _ F' N' O => by
    obtain ⟨x, y, c, t, u, rfl, rfl, p⟩ := O
    exact h x y c t u o' a' b' ta' tb' h' tk' p S' So' (W.ne N hl S) F' N'
end
theorem take_a {a b top : Int} (S : SrcOk a b) (ht : 0 < top) : SrcOk (a.fdiv top) b := by
  refine ⟨?_, intBits_fdiv_le S.ab, S.b0, S.b1⟩
  rw [Int.fdiv_eq_ediv_of_nonneg _ (by omega)]
  exact Int.ediv_nonneg S.a0 (by omega)
theorem take_b {a b c : Int} (S : SrcOk a b) : SrcOk a (c.fmod 2147483647) :=
  ⟨S.a0, S.ab, Int.fmod_nonneg_of_pos _ (by decide), Int.fmod_lt_of_pos _ (by decide)⟩
theorem take_r {x top : Int} (ht : 0 < top) : 0 ≤ x.fmod top ∧ x.fmod top < top := ⟨Int.fmod_nonneg_of_pos _ ht, Int.fmod_lt_of_pos _ ht⟩
set_option maxHeartbeats 4000000 in
theorem cut_take {w : World} {news : List (Addr × Obj)} {l : Addr} {a b top : Int} {t1 : Tok} (So : SrcOk a b) (ht : 0 < top) (hb : Bt 64 top) : CutS w 213 1 l a b news [.ref l, .int top t1] (OutI fun x => 0 ≤ x ∧ x < top) := by
  w_top off
  unfold CutS
  k_fill
  k_with_none
  k_with "ktr_room" => (first | exact dp_le (by with_reducible assumption) (by decide) | exact dp_le0 (by with_reducible assumption) (by decide) | exact Nat.lt_of_le_of_lt (Nat.le_add_right _ _) (by with_reducible assumption) | fail "room")
  k_with "ktr_units" => (first | exact un_le (by with_reducible assumption) (by decide) | exact un_le0 (by with_reducible assumption) (by decide) | exact Nat.lt_of_le_of_lt (Nat.le_add_right _ _) (by with_reducible assumption) | fail "units")
  k_with "k_slotset" => (intro p hp; repeat (first | exact hp | refine List.mem_cons_of_mem _ ?_))
  k_with "k_put" => (first | with_reducible rfl | omega | assumption | (simp only [Int.mul_one, Int.one_mul]; done) | (simp only [signV]; (repeat' split) <;> first | with_reducible rfl | omega) | k_extra "EQ")
  k_with "bits_by_make" => (first | with_reducible assumption | ((with_reducible apply bits_fracT); bits_by_make) | ((with_reducible apply bits_fracB); bits_by_make) | exact PySem.intBits_le_64 (by decide) (by decide) | exact PySem.intBits_le_64 (by omega) (by omega) | exact bits_lit200 (by decide +kernel) | fail "bits")
  k_with "k_slotget" => (first | exact List.mem_cons_self | with_reducible assumption | (refine' List.mem_cons_of_mem _ ?_; k_slotget) | fail "mem")
  k_with "subscriptTail Name Constant ref int" => (k_here; k_dflt (refine' item_tupleT (News.isTup ?zqn ?zqm) ?zqa ?zqb ?zqc ?zqd ?_; (case zqn => k_asm); (case zqm => k_slotget); (case zqa => decide); (case zqb => decide); (case zqc => exact rfl); (case zqd => exact rfl); k_whole))
  k_with "execs cons" => (with_reducible refine gen_toks3 (fun tk' => ?_))
  k_with "execs nil" => (with_reducible refine gen_toks3 (fun tk' => ?_))
  k_with "eval Name" => (k_here; k_dflt (first   | (refine' ld ?zqk1 ?zqk2 ?_; (case zqk1 => k_asm); (case zqk2 => exact rfl); k_whole)   | (refine' name_K ?zqkF ?zqk1 ?zqk2 ?zqk3 ?_; (case zqkF => k_asm); (case zqk1 => k_asm); (case zqk2 => k_asm); (case zqk3 => k_is); k_whole)))
  k_with "k_get" => (first | with_reducible assumption | k_slotget | exact Nat.le_trans (by with_reducible assumption) (by decide) | k_extra "P" | decide | omega | (refine intBits_le_64 ?_ ?_ <;> omega) | (exact Nat.le_trans (by bits_by_make) (by decide)) | assumption)
  k_with "ktd_handed" => (first | with_reducible assumption | decide | omega | k_extra "NZ")
  k_with "binaryOp FloorDiv int int" => (k_here; (with_reducible refine floordiv_int ?zqkbe ?_ (Or.inl (PyProof.noPylong_of_log2 ?zqkbp))); (case zqkbe => ktd_handed); (case zqkbp => exact log_of_bits (by bits_by_make) (by decide)))
  k_with "binaryOp Mod int int" => (k_here; (with_reducible refine mod_int' ?zqkbe ?_); (case zqkbe => ktd_handed))
  k_with "binaryOp Mod int int" => (with_reducible refine' mod_int_v ?zqhb ?zqe ?_; (case zqe => with_reducible assumption); (case zqhb => ktd_handed))
  k_with "binaryOp Mod int int" => (k_extra "MYMOD")
  k_with "binaryOp Mult int int" => (k_here; k_dflt (refine' PyProof.Rows.mul_int ?_ ?zqhm; (case zqhm => exact PyProof.Rows.mulOk_of_bits (by bits_by_make) (by bits_by_make) (by decide))))
  k_with "binaryOp Pow int int" => (with_reducible refine' pow2_int ?zqh ?_; (case zqh => first | with_reducible assumption | omega))
  k_with "exec Raise some none" => (exfalso; first | contradiction | omega)
  k_with "END" => (first   | (refine' ret_int ?zqh ?zqe ?zqF ?zqN ?zqsub; (case zqh => assumption); (case zqF => k_asm); (case zqN => k_asm); (case zqsub => k_slotset); (case zqe => k_put))   | (refine' ret_bool ?zqh ?zqe ?zqF ?zqN ?zqsub; (case zqh => assumption); (case zqF => k_asm); (case zqN => k_asm); (case zqsub => k_slotset); (case zqe => k_put))   | (refine' ret_pair ?zqh ?zqhm ?zqex ?zqey ?zqF ?zqN ?zqsub; (case zqh => assumption); (case zqF => k_asm); (case zqN => k_asm); (case zqsub => k_slotset); (case zqhm => k_slotget); (case zqex => k_put); (case zqey => k_put))   | (refine' ret_turn ?zqh ?zqhb ?zqhc ?zqhd ?zqe0 ?zqe1 ?zqe2 ?zqe3 ?zqF ?zqN ?zqsub; (case zqh => assumption); (case zqF => k_asm); (case zqN => k_asm); (case zqsub => k_slotset); (case zqhb => k_slotget); (case zqhc => k_slotget); (case zqhd => k_slotget); (case zqe0 => k_put); (case zqe1 => k_put); (case zqe2 => k_put); (case zqe3 => k_put)))
  k_with "exec While Compare cons nil" => (k_extra "MYWHILE")
  k_with "KswEnd" => (k_extra "MYTURN")
  k_with "x_auto" => (first | with_reducible assumption | omega | k_extra "FACT" | fail "fact")
  k_with "ite" => (first   | (with_reducible refine' ine_t ?zqh ?_; (case zqh => x_auto))   | (with_reducible refine' ine_f ?zqh ?_; (case zqh => x_auto))   | (with_reducible refine' ieq_t ?zqh ?_; (case zqh => x_auto))   | (with_reducible refine' ieq_f ?zqh ?_; (case zqh => x_auto))   | (with_reducible refine' dec_t ?zqh ?_; (case zqh => x_auto))   | (with_reducible refine' dec_f ?zqh ?_; (case zqh => x_auto)))
  k_with "eval BinOp" => (k_here; k_dflt (refine' IV.use ?zqd ?_; (case zqd => tb_rel); k_whole); intro t' tk')
  k_with "eval Tuple" => (k_here; k_dflt (refine' tup2 ?zqda ?zqdb ?zqF ?zqN ?_; (case zqda => tb_rel); (case zqdb => tb_rel); (case zqF => k_asm); (case zqN => k_asm); k_whole); intro D' t' u' h' tk' F' N' l1; (try k_lt l1); (try k_sweep))
  k_with "eval UnaryOp" => (k_here; k_dflt (refine' IV.use ?zqd ?_; (case zqd => tb_rel); k_whole); intro t' tk')
  k_with "eval Subscript" => (k_here; k_dflt (refine' IV.use ?zqd ?_; (case zqd => tb_rel); k_whole); intro t' tk')
  k_with "exec If" => (k_here; k_dflt (first | (refine' if_f ?zqd ?_; (case zqd => tb_rel); k_whole) | (refine' if_t ?zqd ?_; (case zqd => tb_rel); k_whole)); intro tk')
  k_with "OFFA" => (first | (refine' OffA.lt ?_; assumption) | (refine' OffA.cons ?zqc ?zqd; (case zqc => first | exact Or.inr (by k_cls) | exact Or.inl (by k_ne)); (case zqd => walk_at "OFFA")))
  k_with "WO" => (first | (refine' WO.here ?_; walk_at "OFFA") | (refine' WO.cons ?zqc ?zqd; (case zqc => first | exact Or.inr (by k_cls) | exact Or.inl (by k_ne)); (case zqd => walk_at "WO")))
  k_with "UnrEnd" => (refine' unr_end ?zqF ?zqN ?zqW ?_; (case zqF => k_asm); (case zqN => k_asm); (case zqW => walk_at "WO"))
  k_with "ENTER" => (refine' code_def ?zqk1 ?zqk2 ?zqk3 ?zqk4 ?zqk5 ?zqkA ?zqkF ?zqkK ?zqk6 ?zqk7 ?zqk8 ?zqk9 ?zqkB ?_ ?zqc2 ?zqc3 ?zqc4 ?zqc5; (case zqkA => exact rfl); (case zqkF => exact rfl); (case zqkK => assumption); (case zqk1 => k_asm); (case zqk2 => k_asm); (case zqk3 => k_asm); (case zqk4 => k_asm); (case zqk5 => k_asm); (case zqk6 => k_is); (case zqk7 => k_is); (case zqk8 => ktr_room); (case zqk9 => first | exact BindsTo.of_eq rfl | exact binds_K (by k_in) rfl (by k_is) rfl rfl rfl); (case zqc5 => decide); (case zqkB => exact locs rfl); (case zqc2 => exact rfl); (case zqc3 => exact rfl); (case zqc4 => exact rfl); k_whole; intro g' L' h' FG' F' N' B' X' T'; (try dsimp only); (try k_fold))
  k_with "subscriptTail Name Constant ref int" => (k_here; k_dflt (first   | ((with_reducible show wpAny _ _ (subscriptTail _ _ (Value.ref _) (Value.int 0 _)) _ _ _); refine' src_item0 ?zqn ?zqm ?zqs ?_; (case zqs => with_reducible assumption); (case zqn => k_asm); (case zqm => k_slotget); k_whole)   | ((with_reducible show wpAny _ _ (subscriptTail _ _ (Value.ref _) (Value.int 1 _)) _ _ _); refine' src_item1 ?zqn ?zqm ?zqs ?_; (case zqs => with_reducible assumption); (case zqn => k_asm); (case zqm => k_slotget); k_whole)))
  k_with "setItem ref int" => (k_here; k_dflt (first   | ((with_reducible show wpAny _ _ (setItem (Value.ref _) (Value.int 0 _) _) _ _ _); refine' src_set0 ?zqF ?zqN ?zqs ?zqe ?_; (case zqF => k_asm); (case zqN => k_asm); (case zqs => with_reducible assumption); (case zqe => with_reducible assumption); k_whole)   | ((with_reducible show wpAny _ _ (setItem (Value.ref _) (Value.int 1 _) _) _ _ _); refine' src_set1 ?zqF ?zqN ?zqs ?zqe ?_; (case zqF => k_asm); (case zqN => k_asm); (case zqs => with_reducible assumption); (case zqe => with_reducible assumption); k_whole)); intro h' o' F' N' S'; (try k_sweep))
  intro o ta tb mean mg mb dp un gd cn cs c ccd cl outer A₀ base h₀ L m s Q E S hne B F X N T hk hd hu hret
  have sa := So.ab
  have sb0 := So.b0
  have sb1 := So.b1
  refine wpAny_call ?_
  k_dflt walk_at "ENTER"
  walk_at "STEPS"
  · exact retS0 hret (by assumption) (take_a So ht) (by k_asm) (by k_asm) List.mem_cons_self (fun p hp => List.mem_cons_of_mem _ hp) ⟨rfl, _, _, rfl, take_r ht⟩
  · exact retS0 hret (by assumption) (take_b So) (by k_asm) (by k_asm) List.mem_cons_self (fun p hp => List.mem_cons_of_mem _ hp) ⟨rfl, _, _, rfl, take_r ht⟩
end
section
theorem item_pick {prog : Program} {w : World} {A : Around} {E : Value → Shared → Prop} {s : Shared} {value slice : PySem.Expr} {h₀ : Heap} {L l : Addr} {news : List (Addr × Obj)} {vs : List Value} {n : Nat} {k : Int} {u : Tok} {Q : Value → Shared → Prop}
    (N : News h₀ L s.heap news) (hm : (l, ({ cls := .type "list", data := .seq vs.toArray n } : Obj)) ∈ news) (h0 : 0 ≤ k) (h1 : k < (vs.length : Int)) (hhi : vs.length < 2 ^ 62) (h : ∀ v, v ∈ vs → Q v s)
    (hs : subscripted slice false (.ref l) (.int k u) = operate [.ref l, .int k u] (getItem (.ref l) (.int k u)) := by with_unfolding_all rfl) :
    wpAny (model prog w) A (subscriptTail value slice (.ref l) (.int k u)) Q E s :=
  item_listN N hm h0 (by omega) (List.getElem?_eq_getElem (by omega)) (h _ (List.getElem_mem (by omega))) hs
set_option maxHeartbeats 4000000 in
theorem cut_one {w : World} {news : List (Addr × Obj)} {l th : Addr} {a b : Int} {vs : List Value} (So : SrcOk a b) (hth : (th, ({ cls := .type "list", data := .seq vs.toArray } : Obj)) ∈ news) (hl0 : 0 < vs.length) (hl1 : vs.length < 2 ^ 62) : CutS w 220 2 l a b news [.ref l, .ref th] (OutV vs) := by
  w_top off
  unfold CutS
  k_fill
  k_with_none
  k_with "ktr_room" => (first | exact dp_le (by with_reducible assumption) (by decide) | exact dp_le0 (by with_reducible assumption) (by decide) | exact Nat.lt_of_le_of_lt (Nat.le_add_right _ _) (by with_reducible assumption) | fail "room")
  k_with "ktr_units" => (first | exact un_le (by with_reducible assumption) (by decide) | exact un_le0 (by with_reducible assumption) (by decide) | exact Nat.lt_of_le_of_lt (Nat.le_add_right _ _) (by with_reducible assumption) | fail "units")
  k_with "k_slotset" => (intro p hp; repeat (first | exact hp | refine List.mem_cons_of_mem _ ?_))
  k_with "k_put" => (first | with_reducible rfl | omega | assumption | (simp only [Int.mul_one, Int.one_mul]; done) | (simp only [signV]; (repeat' split) <;> first | with_reducible rfl | omega) | k_extra "EQ")
  k_with "bits_by_make" => (first | with_reducible assumption | ((with_reducible apply bits_fracT); bits_by_make) | ((with_reducible apply bits_fracB); bits_by_make) | exact PySem.intBits_le_64 (by decide) (by decide) | exact PySem.intBits_le_64 (by omega) (by omega) | exact bits_lit200 (by decide +kernel) | fail "bits")
  k_with "k_slotget" => (first | exact List.mem_cons_self | with_reducible assumption | (refine' List.mem_cons_of_mem _ ?_; k_slotget) | fail "mem")
  k_with "subscriptTail Name Constant ref int" => (k_here; k_dflt (refine' item_tupleT (News.isTup ?zqn ?zqm) ?zqa ?zqb ?zqc ?zqd ?_; (case zqn => k_asm); (case zqm => k_slotget); (case zqa => decide); (case zqb => decide); (case zqc => exact rfl); (case zqd => exact rfl); k_whole))
  k_with "execs cons" => (with_reducible refine gen_toks3 (fun tk' => ?_))
  k_with "execs nil" => (with_reducible refine gen_toks3 (fun tk' => ?_))
  k_with "eval Name" => (k_here; k_dflt (first   | (refine' ld ?zqk1 ?zqk2 ?_; (case zqk1 => k_asm); (case zqk2 => exact rfl); k_whole)   | (refine' name_K ?zqkF ?zqk1 ?zqk2 ?zqk3 ?_; (case zqkF => k_asm); (case zqk1 => k_asm); (case zqk2 => k_asm); (case zqk3 => k_is); k_whole)))
  k_with "k_get" => (first | with_reducible assumption | k_slotget | exact Nat.le_trans (by with_reducible assumption) (by decide) | k_extra "P" | decide | omega | (refine intBits_le_64 ?_ ?_ <;> omega) | (exact Nat.le_trans (by bits_by_make) (by decide)) | assumption)
  k_with "ktd_handed" => (first | with_reducible assumption | decide | omega | k_extra "NZ")
  k_with "binaryOp FloorDiv int int" => (k_here; (with_reducible refine floordiv_int ?zqkbe ?_ (Or.inl (PyProof.noPylong_of_log2 ?zqkbp))); (case zqkbe => ktd_handed); (case zqkbp => exact log_of_bits (by bits_by_make) (by decide)))
  k_with "binaryOp Mod int int" => (k_here; (with_reducible refine mod_int' ?zqkbe ?_); (case zqkbe => ktd_handed))
  k_with "binaryOp Mod int int" => (with_reducible refine' mod_int_v ?zqhb ?zqe ?_; (case zqe => with_reducible assumption); (case zqhb => ktd_handed))
  k_with "binaryOp Mod int int" => (k_extra "MYMOD")
  k_with "binaryOp Mult int int" => (k_here; k_dflt (refine' PyProof.Rows.mul_int ?_ ?zqhm; (case zqhm => exact PyProof.Rows.mulOk_of_bits (by bits_by_make) (by bits_by_make) (by decide))))
  k_with "binaryOp Pow int int" => (with_reducible refine' pow2_int ?zqh ?_; (case zqh => first | with_reducible assumption | omega))
  k_with "exec Raise some none" => (exfalso; first | contradiction | omega)
  k_with "END" => (first   | (refine' ret_int ?zqh ?zqe ?zqF ?zqN ?zqsub; (case zqh => assumption); (case zqF => k_asm); (case zqN => k_asm); (case zqsub => k_slotset); (case zqe => k_put))   | (refine' ret_bool ?zqh ?zqe ?zqF ?zqN ?zqsub; (case zqh => assumption); (case zqF => k_asm); (case zqN => k_asm); (case zqsub => k_slotset); (case zqe => k_put))   | (refine' ret_pair ?zqh ?zqhm ?zqex ?zqey ?zqF ?zqN ?zqsub; (case zqh => assumption); (case zqF => k_asm); (case zqN => k_asm); (case zqsub => k_slotset); (case zqhm => k_slotget); (case zqex => k_put); (case zqey => k_put))   | (refine' ret_turn ?zqh ?zqhb ?zqhc ?zqhd ?zqe0 ?zqe1 ?zqe2 ?zqe3 ?zqF ?zqN ?zqsub; (case zqh => assumption); (case zqF => k_asm); (case zqN => k_asm); (case zqsub => k_slotset); (case zqhb => k_slotget); (case zqhc => k_slotget); (case zqhd => k_slotget); (case zqe0 => k_put); (case zqe1 => k_put); (case zqe2 => k_put); (case zqe3 => k_put)))
  k_with "exec While Compare cons nil" => (k_extra "MYWHILE")
  k_with "KswEnd" => (k_extra "MYTURN")
  k_with "x_auto" => (first | with_reducible assumption | omega | k_extra "FACT" | fail "fact")
  k_with "ite" => (first   | (with_reducible refine' ine_t ?zqh ?_; (case zqh => x_auto))   | (with_reducible refine' ine_f ?zqh ?_; (case zqh => x_auto))   | (with_reducible refine' ieq_t ?zqh ?_; (case zqh => x_auto))   | (with_reducible refine' ieq_f ?zqh ?_; (case zqh => x_auto))   | (with_reducible refine' dec_t ?zqh ?_; (case zqh => x_auto))   | (with_reducible refine' dec_f ?zqh ?_; (case zqh => x_auto)))
  k_with "eval BinOp" => (k_here; k_dflt (refine' IV.use ?zqd ?_; (case zqd => tb_rel); k_whole); intro t' tk')
  k_with "eval Tuple" => (k_here; k_dflt (refine' tup2 ?zqda ?zqdb ?zqF ?zqN ?_; (case zqda => tb_rel); (case zqdb => tb_rel); (case zqF => k_asm); (case zqN => k_asm); k_whole); intro D' t' u' h' tk' F' N' l1; (try k_lt l1); (try k_sweep))
  k_with "eval UnaryOp" => (k_here; k_dflt (refine' IV.use ?zqd ?_; (case zqd => tb_rel); k_whole); intro t' tk')
  k_with "eval Subscript" => (k_here; k_dflt (refine' IV.use ?zqd ?_; (case zqd => tb_rel); k_whole); intro t' tk')
  k_with "exec If" => (k_here; k_dflt (first | (refine' if_f ?zqd ?_; (case zqd => tb_rel); k_whole) | (refine' if_t ?zqd ?_; (case zqd => tb_rel); k_whole)); intro tk')
  k_with "OFFA" => (first | (refine' OffA.lt ?_; assumption) | (refine' OffA.cons ?zqc ?zqd; (case zqc => first | exact Or.inr (by k_cls) | exact Or.inl (by k_ne)); (case zqd => walk_at "OFFA")))
  k_with "WO" => (first | (refine' WO.here ?_; walk_at "OFFA") | (refine' WO.cons ?zqc ?zqd; (case zqc => first | exact Or.inr (by k_cls) | exact Or.inl (by k_ne)); (case zqd => walk_at "WO")))
  k_with "UnrEnd" => (refine' unr_end ?zqF ?zqN ?zqW ?_; (case zqF => k_asm); (case zqN => k_asm); (case zqW => walk_at "WO"))
  k_with "ENTER" => (refine' code_def ?zqk1 ?zqk2 ?zqk3 ?zqk4 ?zqk5 ?zqkA ?zqkF ?zqkK ?zqk6 ?zqk7 ?zqk8 ?zqk9 ?zqkB ?_ ?zqc2 ?zqc3 ?zqc4 ?zqc5; (case zqkA => exact rfl); (case zqkF => exact rfl); (case zqkK => assumption); (case zqk1 => k_asm); (case zqk2 => k_asm); (case zqk3 => k_asm); (case zqk4 => k_asm); (case zqk5 => k_asm); (case zqk6 => k_is); (case zqk7 => k_is); (case zqk8 => ktr_room); (case zqk9 => first | exact BindsTo.of_eq rfl | exact binds_K (by k_in) rfl (by k_is) rfl rfl rfl); (case zqc5 => decide); (case zqkB => exact locs rfl); (case zqc2 => exact rfl); (case zqc3 => exact rfl); (case zqc4 => exact rfl); k_whole; intro g' L' h' FG' F' N' B' X' T'; (try dsimp only); (try k_fold))
  k_with "subscriptTail Name Constant ref int" => (k_here; k_dflt (first   | ((with_reducible show wpAny _ _ (subscriptTail _ _ (Value.ref _) (Value.int 0 _)) _ _ _); refine' src_item0 ?zqn ?zqm ?zqs ?_; (case zqn => k_asm); (case zqm => k_slotget); (case zqs => with_reducible assumption); k_whole)   | ((with_reducible show wpAny _ _ (subscriptTail _ _ (Value.ref _) (Value.int 1 _)) _ _ _); refine' src_item1 ?zqn ?zqm ?zqs ?_; (case zqn => k_asm); (case zqm => k_slotget); (case zqs => with_reducible assumption); k_whole)))
  k_with "setItem ref int" => (k_here; k_dflt (first   | ((with_reducible show wpAny _ _ (setItem (Value.ref _) (Value.int 0 _) _) _ _ _); refine' src_set0 ?zqF ?zqN ?zqs ?zqe ?_; (case zqF => k_asm); (case zqN => k_asm); (case zqs => with_reducible assumption); (case zqe => with_reducible assumption); k_whole)   | ((with_reducible show wpAny _ _ (setItem (Value.ref _) (Value.int 1 _) _) _ _ _); refine' src_set1 ?zqF ?zqN ?zqs ?zqe ?_; (case zqF => k_asm); (case zqN => k_asm); (case zqs => with_reducible assumption); (case zqe => with_reducible assumption); k_whole)); intro h' o' F' N' S'; (try k_sweep))
  k_with "k_data" => (first | (refine' WS.tail ?zqh; (case zqh => with_reducible assumption)) | (refine' WS.keep ?zqh ?zqr; (case zqh => first | exact Or.inr rfl | exact Or.inl (by k_ne)); (case zqr => k_data)) | (refine' WS.skip ?zqr; (case zqr => k_data)))
  k_with "call ref" => (k_here; k_dflt (refine' use_takeI (cut_take ?zqp0 ?zqp1 ?zqp2) ?zqk1 ?zqk2 ?zqk3 ?zqk4 ?zqk5 ?zqkK ?zqkd ?zqku ?zqS ?zqhl ?zqW ?_; (case zqk1 => k_asm); (case zqk2 => k_asm); (case zqk3 => k_asm); (case zqk4 => k_asm); (case zqk5 => k_asm); (case zqkK => first | exact rfl | assumption); (case zqhl => k_slotget); (case zqS => with_reducible assumption); (case zqW => k_data); (case zqp0 => k_get); (case zqp1 => k_get); (case zqp2 => k_get); (case zqkd => ktr_room); (case zqku => ktr_units); k_whole; intro x' t' o' a' b' ta' tb' h' tk' P' S' O' e' F' N'; (try k_sweep); (try dsimp only at P');  (try dsimp only); (try k_fold)))
  k_with "subscriptTail Name Call ref int" => (k_here; k_dflt (refine' item_pick ?zqn ?zqm ?zqa ?zqb ?zqc ?_; (case zqn => k_asm); (case zqm => k_slotget); (case zqa => omega); (case zqb => omega); (case zqc => with_reducible assumption); k_whole; intro v' hv'))
  k_with "call builtin:len" => (k_here; k_dflt (refine' kst_len ?zqk1 ?zqk2 ?zqk3 ?zqk4 ?_; (case zqk1 => k_asm); (case zqk2 => k_slotget); (case zqk3 => exact rfl); (case zqk4 => omega); k_whole))
  intro o ta tb mean mg mb dp un gd cn cs c ccd cl outer A₀ base h₀ L m s Q E S hne B F X N T hk hd hu hret
  refine wpAny_call ?_
  k_dflt walk_at "ENTER"
  walk_at "STEPS"
  exact retS0 hret (by assumption) (by assumption) (by k_asm) (by k_asm) List.mem_cons_self (fun p hp => List.mem_cons_of_mem _ hp) ⟨rfl, by assumption⟩
end
section
def DegP (n d : Int) : Prop :=
  (∃ t, 0 ≤ t ∧ t < 13 ∧ n = 90 * (t - 6) ∧ d = 1) ∨ (∃ t, 0 ≤ t ∧ t < 61 ∧ n = 15 * (t - 30) ∧ d = 1) ∨
  (∃ t e, 0 ≤ t ∧ t < 4001 ∧ (e = 1 ∨ e = 2 ∨ e = 3 ∨ e = 7 ∨ e = 10) ∧ n = fracT (t - 2000) e ∧ d = fracB (t - 2000) e)
set_option maxHeartbeats 4000000 in
theorem cut_degrees {w : World} {news : List (Addr × Obj)} {l : Addr} {a b : Int} (So : SrcOk a b) : CutS w 241 3 l a b news [.ref l] (OutD DegP) := by
  w_top off
  unfold CutS
  k_fill
  k_with_none
  k_with "ktr_room" => (first | exact dp_le (by with_reducible assumption) (by decide) | exact dp_le0 (by with_reducible assumption) (by decide) | exact Nat.lt_of_le_of_lt (Nat.le_add_right _ _) (by with_reducible assumption) | fail "room")
  k_with "ktr_units" => (first | exact un_le (by with_reducible assumption) (by decide) | exact un_le0 (by with_reducible assumption) (by decide) | exact Nat.lt_of_le_of_lt (Nat.le_add_right _ _) (by with_reducible assumption) | fail "units")
  k_with "k_slotset" => (intro p hp; repeat (first | exact hp | refine List.mem_cons_of_mem _ ?_))
  k_with "k_put" => (first | with_reducible rfl | omega | assumption | (simp only [Int.mul_one, Int.one_mul]; done) | (simp only [signV]; (repeat' split) <;> first | with_reducible rfl | omega) | k_extra "EQ")
  k_with "bits_by_make" => (first | with_reducible assumption | ((with_reducible apply bits_fracT); bits_by_make) | ((with_reducible apply bits_fracB); bits_by_make) | exact PySem.intBits_le_64 (by decide) (by decide) | exact PySem.intBits_le_64 (by omega) (by omega) | exact bits_lit200 (by decide +kernel) | fail "bits")
  k_with "k_slotget" => (first | exact List.mem_cons_self | with_reducible assumption | (refine' List.mem_cons_of_mem _ ?_; k_slotget) | fail "mem")
  k_with "subscriptTail Name Constant ref int" => (k_here; k_dflt (refine' item_tupleT (News.isTup ?zqn ?zqm) ?zqa ?zqb ?zqc ?zqd ?_; (case zqn => k_asm); (case zqm => k_slotget); (case zqa => decide); (case zqb => decide); (case zqc => exact rfl); (case zqd => exact rfl); k_whole))
  k_with "execs cons" => (with_reducible refine gen_toks3 (fun tk' => ?_))
  k_with "execs nil" => (with_reducible refine gen_toks3 (fun tk' => ?_))
  k_with "eval Name" => (k_here; k_dflt (first   | (refine' ld ?zqk1 ?zqk2 ?_; (case zqk1 => k_asm); (case zqk2 => exact rfl); k_whole)   | (refine' name_K ?zqkF ?zqk1 ?zqk2 ?zqk3 ?_; (case zqkF => k_asm); (case zqk1 => k_asm); (case zqk2 => k_asm); (case zqk3 => k_is); k_whole)))
  k_with "k_get" => (first | with_reducible assumption | k_slotget | exact Nat.le_trans (by with_reducible assumption) (by decide) | k_extra "P" | decide | omega | (refine intBits_le_64 ?_ ?_ <;> omega) | (exact Nat.le_trans (by bits_by_make) (by decide)) | assumption)
  k_with "ktd_handed" => (first | with_reducible assumption | decide | omega | k_extra "NZ")
  k_with "binaryOp FloorDiv int int" => (k_here; (with_reducible refine floordiv_int ?zqkbe ?_ (Or.inl (PyProof.noPylong_of_log2 ?zqkbp))); (case zqkbe => ktd_handed); (case zqkbp => exact log_of_bits (by bits_by_make) (by decide)))
  k_with "binaryOp Mod int int" => (k_here; (with_reducible refine mod_int' ?zqkbe ?_); (case zqkbe => ktd_handed))
  k_with "binaryOp Mod int int" => (with_reducible refine' mod_int_v ?zqhb ?zqe ?_; (case zqe => with_reducible assumption); (case zqhb => ktd_handed))
  k_with "binaryOp Mod int int" => (k_extra "MYMOD")
  k_with "binaryOp Mult int int" => (k_here; k_dflt (refine' PyProof.Rows.mul_int ?_ ?zqhm; (case zqhm => exact PyProof.Rows.mulOk_of_bits (by bits_by_make) (by bits_by_make) (by decide))))
  k_with "binaryOp Pow int int" => (with_reducible refine' pow2_int ?zqh ?_; (case zqh => first | with_reducible assumption | omega))
  k_with "exec Raise some none" => (exfalso; first | contradiction | omega)
  k_with "END" => (first   | (refine' ret_int ?zqh ?zqe ?zqF ?zqN ?zqsub; (case zqh => assumption); (case zqF => k_asm); (case zqN => k_asm); (case zqsub => k_slotset); (case zqe => k_put))   | (refine' ret_bool ?zqh ?zqe ?zqF ?zqN ?zqsub; (case zqh => assumption); (case zqF => k_asm); (case zqN => k_asm); (case zqsub => k_slotset); (case zqe => k_put))   | (refine' ret_pair ?zqh ?zqhm ?zqex ?zqey ?zqF ?zqN ?zqsub; (case zqh => assumption); (case zqF => k_asm); (case zqN => k_asm); (case zqsub => k_slotset); (case zqhm => k_slotget); (case zqex => k_put); (case zqey => k_put))   | (refine' ret_turn ?zqh ?zqhb ?zqhc ?zqhd ?zqe0 ?zqe1 ?zqe2 ?zqe3 ?zqF ?zqN ?zqsub; (case zqh => assumption); (case zqF => k_asm); (case zqN => k_asm); (case zqsub => k_slotset); (case zqhb => k_slotget); (case zqhc => k_slotget); (case zqhd => k_slotget); (case zqe0 => k_put); (case zqe1 => k_put); (case zqe2 => k_put); (case zqe3 => k_put)))
  k_with "exec While Compare cons nil" => (k_extra "MYWHILE")
  k_with "KswEnd" => (k_extra "MYTURN")
  k_with "x_auto" => (first | with_reducible assumption | omega | k_extra "FACT" | fail "fact")
  k_with "ite" => (first   | (with_reducible refine' ine_t ?zqh ?_; (case zqh => x_auto))   | (with_reducible refine' ine_f ?zqh ?_; (case zqh => x_auto))   | (with_reducible refine' ieq_t ?zqh ?_; (case zqh => x_auto))   | (with_reducible refine' ieq_f ?zqh ?_; (case zqh => x_auto))   | (with_reducible refine' dec_t ?zqh ?_; (case zqh => x_auto))   | (with_reducible refine' dec_f ?zqh ?_; (case zqh => x_auto)))
  k_with "eval BinOp" => (k_here; k_dflt (refine' IV.use ?zqd ?_; (case zqd => tb_rel); k_whole); intro t' tk')
  k_with "eval Tuple" => (k_here; k_dflt (refine' tup2 ?zqda ?zqdb ?zqF ?zqN ?_; (case zqda => tb_rel); (case zqdb => tb_rel); (case zqF => k_asm); (case zqN => k_asm); k_whole); intro D' t' u' h' tk' F' N' l1; (try k_lt l1); (try k_sweep))
  k_with "eval UnaryOp" => (k_here; k_dflt (refine' IV.use ?zqd ?_; (case zqd => tb_rel); k_whole); intro t' tk')
  k_with "eval Subscript" => (k_here; k_dflt (refine' IV.use ?zqd ?_; (case zqd => tb_rel); k_whole); intro t' tk')
  k_with "exec If" => (k_here; k_dflt (first | (refine' if_f ?zqd ?_; (case zqd => tb_rel); k_whole) | (refine' if_t ?zqd ?_; (case zqd => tb_rel); k_whole)); intro tk')
  k_with "OFFA" => (first | (refine' OffA.lt ?_; assumption) | (refine' OffA.cons ?zqc ?zqd; (case zqc => first | exact Or.inr (by k_cls) | exact Or.inl (by k_ne)); (case zqd => walk_at "OFFA")))
  k_with "WO" => (first | (refine' WO.here ?_; walk_at "OFFA") | (refine' WO.cons ?zqc ?zqd; (case zqc => first | exact Or.inr (by k_cls) | exact Or.inl (by k_ne)); (case zqd => walk_at "WO")))
  k_with "UnrEnd" => (refine' unr_end ?zqF ?zqN ?zqW ?_; (case zqF => k_asm); (case zqN => k_asm); (case zqW => walk_at "WO"))
  k_with "ENTER" => (refine' code_def ?zqk1 ?zqk2 ?zqk3 ?zqk4 ?zqk5 ?zqkA ?zqkF ?zqkK ?zqk6 ?zqk7 ?zqk8 ?zqk9 ?zqkB ?_ ?zqc2 ?zqc3 ?zqc4 ?zqc5; (case zqkA => exact rfl); (case zqkF => exact rfl); (case zqkK => assumption); (case zqk1 => k_asm); (case zqk2 => k_asm); (case zqk3 => k_asm); (case zqk4 => k_asm); (case zqk5 => k_asm); (case zqk6 => k_is); (case zqk7 => k_is); (case zqk8 => ktr_room); (case zqk9 => first | exact BindsTo.of_eq rfl | exact binds_K (by k_in) rfl (by k_is) rfl rfl rfl); (case zqc5 => decide); (case zqkB => exact locs rfl); (case zqc2 => exact rfl); (case zqc3 => exact rfl); (case zqc4 => exact rfl); k_whole; intro g' L' h' FG' F' N' B' X' T'; (try dsimp only); (try k_fold))
  k_with "subscriptTail Name Constant ref int" => (k_here; k_dflt (first   | ((with_reducible show wpAny _ _ (subscriptTail _ _ (Value.ref _) (Value.int 0 _)) _ _ _); refine' src_item0 ?zqn ?zqm ?zqs ?_; (case zqn => k_asm); (case zqm => k_slotget); (case zqs => with_reducible assumption); k_whole)   | ((with_reducible show wpAny _ _ (subscriptTail _ _ (Value.ref _) (Value.int 1 _)) _ _ _); refine' src_item1 ?zqn ?zqm ?zqs ?_; (case zqn => k_asm); (case zqm => k_slotget); (case zqs => with_reducible assumption); k_whole)))
  k_with "setItem ref int" => (k_here; k_dflt (first   | ((with_reducible show wpAny _ _ (setItem (Value.ref _) (Value.int 0 _) _) _ _ _); refine' src_set0 ?zqF ?zqN ?zqs ?zqe ?_; (case zqF => k_asm); (case zqN => k_asm); (case zqs => with_reducible assumption); (case zqe => with_reducible assumption); k_whole)   | ((with_reducible show wpAny _ _ (setItem (Value.ref _) (Value.int 1 _) _) _ _ _); refine' src_set1 ?zqF ?zqN ?zqs ?zqe ?_; (case zqF => k_asm); (case zqN => k_asm); (case zqs => with_reducible assumption); (case zqe => with_reducible assumption); k_whole)); intro h' o' F' N' S'; (try k_sweep))
  k_with "k_data" => (first | (refine' WS.tail ?zqh; (case zqh => with_reducible assumption)) | (refine' WS.keep ?zqh ?zqr; (case zqh => first | exact Or.inr rfl | exact Or.inl (by k_ne)); (case zqr => k_data)) | (refine' WS.skip ?zqr; (case zqr => k_data)))
  k_with "call ref" => (k_here; k_dflt (refine' use_takeI (cut_take ?zqp0 ?zqp1 ?zqp2) ?zqk1 ?zqk2 ?zqk3 ?zqk4 ?zqk5 ?zqkK ?zqkd ?zqku ?zqS ?zqhl ?zqW ?_; (case zqk1 => k_asm); (case zqk2 => k_asm); (case zqk3 => k_asm); (case zqk4 => k_asm); (case zqk5 => k_asm); (case zqkK => first | exact rfl | assumption); (case zqhl => k_slotget); (case zqS => with_reducible assumption); (case zqW => k_data); (case zqp0 => k_get); (case zqp1 => k_get); (case zqp2 => k_get); (case zqkd => ktr_room); (case zqku => ktr_units); k_whole; intro x' t' o' a' b' ta' tb' h' tk' P' S' O' e' F' N'; (try k_sweep); (try dsimp only at P');  (try dsimp only); (try k_fold)))
  k_with "call ref" => (k_here; k_dflt (refine' use_takeV (cut_one ?zqp0 ?zqp1 ?zqp2 ?zqp3) ?zqk1 ?zqk2 ?zqk3 ?zqk4 ?zqk5 ?zqkK ?zqkd ?zqku ?zqS ?zqhl ?zqW ?_; (case zqk1 => k_asm); (case zqk2 => k_asm); (case zqk3 => k_asm); (case zqk4 => k_asm); (case zqk5 => k_asm); (case zqkK => first | exact rfl | assumption); (case zqhl => k_slotget); (case zqS => with_reducible assumption); (case zqW => k_data); (case zqp0 => k_get); (case zqp1 => k_get); (case zqp2 => k_get); (case zqp3 => k_get); (case zqkd => ktr_room); (case zqku => ktr_units); k_whole; intro r' o' a' b' ta' tb' h' tk' P' S' O' e' F' N'; (try k_sweep); (try dsimp only at P'); (simp only [List.mem_cons, List.not_mem_nil, or_false] at P'); ((rcases P' with P' | P' | P' | P' | P') <;> subst P'); (try dsimp only); (try k_fold)))
  k_with "call ref" => (k_here; k_dflt (refine' use_pair (cut_fraction ?zqp0 ?zqp1) ?zqk1 ?zqk2 ?zqk3 ?zqk4 ?zqk5 ?zqkK ?zqkd ?zqku ?_; (case zqk1 => k_asm); (case zqk2 => k_asm); (case zqk3 => k_asm); (case zqk4 => k_asm); (case zqk5 => k_asm); (case zqkK => first | exact rfl | assumption); (case zqp0 => k_get); (case zqp1 => k_get); (case zqkd => ktr_room); (case zqku => ktr_units); k_whole; intro a' t' u' h' tk' F' N'; (try k_sweep); (try dsimp only); (try k_fold)))
  intro o ta tb mean mg mb dp un gd cn cs c ccd cl outer A₀ base h₀ L m s Q E S hne B F X N T hk hd hu hret
  k_with "P" => first | exact Nat.zero_lt_succ _ | (simp only [List.length_cons, List.length_nil]; decide)
  refine wpAny_call ?_
  k_dflt walk_at "ENTER"
  walk_at "STEPS"
  all_goals (
    refine' retSP hret ?S ?So ?F ?N ?hl ?sub ?hc ?O
    case N => k_asm
    case F => k_asm
    case hl => k_slotget
    case S => assumption
    case So => assumption
    case sub => k_slotset
    case hc => k_slotget
    case O => first | (refine Or.inl ⟨_, ?_, ?_, rfl, rfl⟩ <;> omega) | (refine Or.inr (Or.inl ⟨_, ?_, ?_, rfl, rfl⟩) <;> omega) | (refine Or.inr (Or.inr ⟨_, _, ?_, ?_, ?_, rfl, rfl⟩) <;> omega))
end
section
def CutL (w : World) (f : Addr) (k : Nat) (sc : Addr) (us : List Value) (news : List (Addr × Obj)) (vs : List Value) : Prop :=
  ∀ (mean : ExcName → Option Value) (mg mb : PySem.Str → Option Value) (dp un : Nat) (gd : Option (List Code)) (cn : PySem.Str) (cs : Scope) (a : Addr) (ccd : Value) (cl : List (PySem.Str × Addr)) (outer : List Env) (A₀ : Around) (base h₀ : Heap) (L : Addr) (m : PySem.Str → Option Value) (s : Shared) (Q E : Value → Shared → Prop),
    base.IsList sc us.toArray →
    Below A₀ base outer h₀ → Fr h₀ L s.heap m → (hd.heap_39 w.params).In h₀ → News h₀ L s.heap news → Top hd.view_39 LS mean mg mb h₀ → cs.kind = .function → dp + k < recursionLimit → un + 8 * k < cLine →
    (∀ l o a b t u h' tk', Fr h₀ L h' m → News h₀ L h' ((l, o) :: news) → (∀ p ∈ news, p.1 < l) → Src o a b t u → SrcOk a b → Q (.ref l) { s with heap := h', toks := tk' }) →
    wpAny (model PySem.Challenge.rw_nu0010_01.row.prog w) (ktrTop dp un gd cn cs L a ccd cl outer) (call (.ref f) vs) Q E s
theorem ret_src {h₀ h' : Heap} {L l : Addr} {m : PySem.Str → Option Value} {s : Shared} {Q : Value → Shared → Prop} {a b : Int} {t u : Tok} {tk' : Nat} {news : List (Addr × Obj)}
    (hret : ∀ l o a b t u h' tk', Fr h₀ L h' m → News h₀ L h' ((l, o) :: news) → (∀ p ∈ news, p.1 < l) → Src o a b t u → SrcOk a b → Q (.ref l) { s with heap := h', toks := tk' })
    (F : Fr h₀ L h' m) (N : News h₀ L h' ((l, listOf #[.int a t, .int b u] 0) :: news)) (l1 : ∀ p ∈ news, p.1 < l) (So : SrcOk a b) : Q (.ref l) { s with heap := h', toks := tk' } :=
  hret l _ a b t u _ _ F N l1 ⟨rfl, 0, rfl⟩ So
section
variable {prog : Program} {w : World} {A A₀ : Around} {E : Value → Shared → Prop} {s : Shared} {value slice : PySem.Expr} {base h₀ : Heap} {outer : List Env} {L l : Addr} {m : PySem.Str → Option Value} {us : List Value}
theorem len_base {Q : Value → Shared → Prop} (hl : base.IsList l us.toArray) (B : Below A₀ base outer h₀) (F : Fr h₀ L s.heap m) (hfit : us.length < 2 ^ 62)
    (h : Q (.int us.length (s.toks + 1)) { s with toks := s.toks + 1 + 1 }) : wpAny (model prog w) A (call (.builtin "len") [.ref l]) Q E s :=
  PyProof.Rows.len_list (stays_list F.keep (stays_list B.stays hl)) (by simp; omega) (by simpa using h)
theorem item_base {k : Int} {u : Tok} {v : Value} {Q : Value → Shared → Prop} (hl : base.IsList l us.toArray) (B : Below A₀ base outer h₀) (F : Fr h₀ L s.heap m) (h0 : 0 ≤ k) (hhi : k < 2 ^ 63) (hx : us[k.toNat]? = some v) (h : Q v s)
    (hs : subscripted slice false (.ref l) (.int k u) = operate [.ref l, .int k u] (getItem (.ref l) (.int k u)) := by with_unfolding_all rfl) :
    wpAny (model prog w) A (subscriptTail value slice (.ref l) (.int k u)) Q E s :=
  have hL := stays_list F.keep (stays_list B.stays hl)
  tail_any hL.typeIs slot_list_getitem.lookup (wpAny_getItem_list hL h0 hhi (by simpa using hx) h) hs
end
set_option maxHeartbeats 4000000 in
theorem cut_pool_in {w : World} {sc : Addr} {us : List Value} {news : List (Addr × Obj)} {k : Int} {t1 : Tok} (hk0 : 0 ≤ k) (hk1 : k < 10) (hus : us.length < 2 ^ 62) (hi : k < (us.length : Int)) {x : Int} {tx : Tok} (hx : us[k.toNat]? = some (.int x tx)) (bx : PySem.Builtin.Int.intBits x ≤ 2 ^ 20) : CutL w 206 2 sc us news [.ref sc, .int k t1] := by
  w_top off
  unfold CutL
  k_fill
  k_with_none
  k_with "ktr_room" => (first | exact dp_le (by with_reducible assumption) (by decide) | exact dp_le0 (by with_reducible assumption) (by decide) | exact Nat.lt_of_le_of_lt (Nat.le_add_right _ _) (by with_reducible assumption) | fail "room")
  k_with "ktr_units" => (first | exact un_le (by with_reducible assumption) (by decide) | exact un_le0 (by with_reducible assumption) (by decide) | exact Nat.lt_of_le_of_lt (Nat.le_add_right _ _) (by with_reducible assumption) | fail "units")
  k_with "k_slotset" => (intro p hp; repeat (first | exact hp | refine List.mem_cons_of_mem _ ?_))
  k_with "k_put" => (first | with_reducible rfl | omega | assumption | (simp only [Int.mul_one, Int.one_mul]; done) | (simp only [signV]; (repeat' split) <;> first | with_reducible rfl | omega) | k_extra "EQ")
  k_with "bits_by_make" => (first | with_reducible assumption | ((with_reducible apply bits_fracT); bits_by_make) | ((with_reducible apply bits_fracB); bits_by_make) | exact PySem.intBits_le_64 (by decide) (by decide) | exact PySem.intBits_le_64 (by omega) (by omega) | exact bits_lit200 (by decide +kernel) | fail "bits")
  k_with "k_slotget" => (first | exact List.mem_cons_self | with_reducible assumption | (refine' List.mem_cons_of_mem _ ?_; k_slotget) | fail "mem")
  k_with "subscriptTail Name Constant ref int" => (k_here; k_dflt (refine' item_tupleT (News.isTup ?zqn ?zqm) ?zqa ?zqb ?zqc ?zqd ?_; (case zqn => k_asm); (case zqm => k_slotget); (case zqa => decide); (case zqb => decide); (case zqc => exact rfl); (case zqd => exact rfl); k_whole))
  k_with "execs cons" => (with_reducible refine gen_toks3 (fun tk' => ?_))
  k_with "execs nil" => (with_reducible refine gen_toks3 (fun tk' => ?_))
  k_with "eval Name" => (k_here; k_dflt (first   | (refine' ld ?zqk1 ?zqk2 ?_; (case zqk1 => k_asm); (case zqk2 => exact rfl); k_whole)   | (refine' name_K ?zqkF ?zqk1 ?zqk2 ?zqk3 ?_; (case zqkF => k_asm); (case zqk1 => k_asm); (case zqk2 => k_asm); (case zqk3 => k_is); k_whole)))
  k_with "k_get" => (first | with_reducible assumption | k_slotget | exact Nat.le_trans (by with_reducible assumption) (by decide) | k_extra "P" | decide | omega | (refine intBits_le_64 ?_ ?_ <;> omega) | (exact Nat.le_trans (by bits_by_make) (by decide)) | assumption)
  k_with "ktd_handed" => (first | with_reducible assumption | decide | omega | k_extra "NZ")
  k_with "binaryOp FloorDiv int int" => (k_here; (with_reducible refine floordiv_int ?zqkbe ?_ (Or.inl (PyProof.noPylong_of_log2 ?zqkbp))); (case zqkbe => ktd_handed); (case zqkbp => exact log_of_bits (by bits_by_make) (by decide)))
  k_with "binaryOp Mod int int" => (k_here; (with_reducible refine mod_int' ?zqkbe ?_); (case zqkbe => ktd_handed))
  k_with "binaryOp Mod int int" => (with_reducible refine' mod_int_v ?zqhb ?zqe ?_; (case zqe => with_reducible assumption); (case zqhb => ktd_handed))
  k_with "binaryOp Mod int int" => (k_extra "MYMOD")
  k_with "binaryOp Mult int int" => (k_here; k_dflt (refine' PyProof.Rows.mul_int ?_ ?zqhm; (case zqhm => exact PyProof.Rows.mulOk_of_bits (by bits_by_make) (by bits_by_make) (by decide))))
  k_with "binaryOp Pow int int" => (with_reducible refine' pow2_int ?zqh ?_; (case zqh => first | with_reducible assumption | omega))
  k_with "exec Raise some none" => (exfalso; first | contradiction | omega)
  k_with "END" => (first   | (refine' ret_int ?zqh ?zqe ?zqF ?zqN ?zqsub; (case zqh => assumption); (case zqF => k_asm); (case zqN => k_asm); (case zqsub => k_slotset); (case zqe => k_put))   | (refine' ret_bool ?zqh ?zqe ?zqF ?zqN ?zqsub; (case zqh => assumption); (case zqF => k_asm); (case zqN => k_asm); (case zqsub => k_slotset); (case zqe => k_put))   | (refine' ret_pair ?zqh ?zqhm ?zqex ?zqey ?zqF ?zqN ?zqsub; (case zqh => assumption); (case zqF => k_asm); (case zqN => k_asm); (case zqsub => k_slotset); (case zqhm => k_slotget); (case zqex => k_put); (case zqey => k_put))   | (refine' ret_turn ?zqh ?zqhb ?zqhc ?zqhd ?zqe0 ?zqe1 ?zqe2 ?zqe3 ?zqF ?zqN ?zqsub; (case zqh => assumption); (case zqF => k_asm); (case zqN => k_asm); (case zqsub => k_slotset); (case zqhb => k_slotget); (case zqhc => k_slotget); (case zqhd => k_slotget); (case zqe0 => k_put); (case zqe1 => k_put); (case zqe2 => k_put); (case zqe3 => k_put)))
  k_with "exec While Compare cons nil" => (k_extra "MYWHILE")
  k_with "KswEnd" => (k_extra "MYTURN")
  k_with "x_auto" => (first | with_reducible assumption | omega | k_extra "FACT" | fail "fact")
  k_with "ite" => (first   | (with_reducible refine' ine_t ?zqh ?_; (case zqh => x_auto))   | (with_reducible refine' ine_f ?zqh ?_; (case zqh => x_auto))   | (with_reducible refine' ieq_t ?zqh ?_; (case zqh => x_auto))   | (with_reducible refine' ieq_f ?zqh ?_; (case zqh => x_auto))   | (with_reducible refine' dec_t ?zqh ?_; (case zqh => x_auto))   | (with_reducible refine' dec_f ?zqh ?_; (case zqh => x_auto)))
  k_with "eval BinOp" => (k_here; k_dflt (refine' IV.use ?zqd ?_; (case zqd => tb_rel); k_whole); intro t' tk')
  k_with "eval Tuple" => (k_here; k_dflt (refine' tup2 ?zqda ?zqdb ?zqF ?zqN ?_; (case zqda => tb_rel); (case zqdb => tb_rel); (case zqF => k_asm); (case zqN => k_asm); k_whole); intro D' t' u' h' tk' F' N' l1; (try k_lt l1); (try k_sweep))
  k_with "eval UnaryOp" => (k_here; k_dflt (refine' IV.use ?zqd ?_; (case zqd => tb_rel); k_whole); intro t' tk')
  k_with "eval Subscript" => (k_here; k_dflt (refine' IV.use ?zqd ?_; (case zqd => tb_rel); k_whole); intro t' tk')
  k_with "exec If" => (k_here; k_dflt (first | (refine' if_f ?zqd ?_; (case zqd => tb_rel); k_whole) | (refine' if_t ?zqd ?_; (case zqd => tb_rel); k_whole)); intro tk')
  k_with "OFFA" => (first | (refine' OffA.lt ?_; assumption) | (refine' OffA.cons ?zqc ?zqd; (case zqc => first | exact Or.inr (by k_cls) | exact Or.inl (by k_ne)); (case zqd => walk_at "OFFA")))
  k_with "WO" => (first | (refine' WO.here ?_; walk_at "OFFA") | (refine' WO.cons ?zqc ?zqd; (case zqc => first | exact Or.inr (by k_cls) | exact Or.inl (by k_ne)); (case zqd => walk_at "WO")))
  k_with "UnrEnd" => (refine' unr_end ?zqF ?zqN ?zqW ?_; (case zqF => k_asm); (case zqN => k_asm); (case zqW => walk_at "WO"))
  k_with "ENTER" => (refine' code_def ?zqk1 ?zqk2 ?zqk3 ?zqk4 ?zqk5 ?zqkA ?zqkF ?zqkK ?zqk6 ?zqk7 ?zqk8 ?zqk9 ?zqkB ?_ ?zqc2 ?zqc3 ?zqc4 ?zqc5; (case zqkA => exact rfl); (case zqkF => exact rfl); (case zqkK => assumption); (case zqk1 => k_asm); (case zqk2 => k_asm); (case zqk3 => k_asm); (case zqk4 => k_asm); (case zqk5 => k_asm); (case zqk6 => k_is); (case zqk7 => k_is); (case zqk8 => ktr_room); (case zqk9 => first | exact BindsTo.of_eq rfl | exact binds_K (by k_in) rfl (by k_is) rfl rfl rfl); (case zqc5 => decide); (case zqkB => exact locs rfl); (case zqc2 => exact rfl); (case zqc3 => exact rfl); (case zqc4 => exact rfl); k_whole; intro g' L' h' FG' F' N' B' X' T'; (try dsimp only); (try k_fold))
  k_with "call builtin:len" => (k_here; k_dflt (refine' len_base ?zqk1 ?zqk2 ?zqk3 ?zqk4 ?_; (case zqk1 => with_reducible assumption); (case zqk2 => k_asm); (case zqk3 => k_asm); (case zqk4 => with_reducible assumption); k_whole))
  k_with "subscriptTail Name Name ref int" => (k_here; k_dflt (refine' item_base ?zqk1 ?zqk2 ?zqk3 ?zqa ?zqb ?zqc ?_; (case zqk1 => with_reducible assumption); (case zqk2 => k_asm); (case zqk3 => k_asm); (case zqa => omega); (case zqb => omega); (case zqc => with_reducible assumption); k_whole))
  intro mean mg mb dp un gd cn cs c ccd cl outer A₀ base h₀ L m s Q E hl B F X N T hk hd hu hret
  refine wpAny_call ?_
  k_dflt walk_at "ENTER"
  walk_at "STEPS"
  all_goals (
    refine' ret_src hret ?F ?N ?l1 ?So
    case l1 => assumption
    case F => k_asm
    case N => k_asm
    case So => (refine SrcOk.mk ?_ (Nat.le_trans (by bits_by_make) (by decide)) (Int.fmod_nonneg_of_pos _ (by decide)) (Int.fmod_lt_of_pos _ (by decide)); first | omega | (split <;> omega)))
set_option maxHeartbeats 4000000 in
theorem cut_pool_out {w : World} {sc : Addr} {us : List Value} {news : List (Addr × Obj)} {k : Int} {t1 : Tok} (hk0 : 0 ≤ k) (hk1 : k < 10) (hus : us.length < 2 ^ 62) (hi : ¬ k < (us.length : Int)) : CutL w 206 2 sc us news [.ref sc, .int k t1] := by
  unfold CutL
  k_fill
  k_with_none
  k_with "ktr_room" => (first | exact dp_le (by with_reducible assumption) (by decide) | exact dp_le0 (by with_reducible assumption) (by decide) | exact Nat.lt_of_le_of_lt (Nat.le_add_right _ _) (by with_reducible assumption) | fail "room")
  k_with "ktr_units" => (first | exact un_le (by with_reducible assumption) (by decide) | exact un_le0 (by with_reducible assumption) (by decide) | exact Nat.lt_of_le_of_lt (Nat.le_add_right _ _) (by with_reducible assumption) | fail "units")
  k_with "k_slotset" => (intro p hp; repeat (first | exact hp | refine List.mem_cons_of_mem _ ?_))
  k_with "k_put" => (first | with_reducible rfl | omega | assumption | (simp only [Int.mul_one, Int.one_mul]; done) | (simp only [signV]; (repeat' split) <;> first | with_reducible rfl | omega) | k_extra "EQ")
  k_with "bits_by_make" => (first | with_reducible assumption | ((with_reducible apply bits_fracT); bits_by_make) | ((with_reducible apply bits_fracB); bits_by_make) | exact PySem.intBits_le_64 (by decide) (by decide) | exact PySem.intBits_le_64 (by omega) (by omega) | exact bits_lit200 (by decide +kernel) | fail "bits")
  k_with "k_slotget" => (first | exact List.mem_cons_self | with_reducible assumption | (refine' List.mem_cons_of_mem _ ?_; k_slotget) | fail "mem")
  k_with "subscriptTail Name Constant ref int" => (k_here; k_dflt (refine' item_tupleT (News.isTup ?zqn ?zqm) ?zqa ?zqb ?zqc ?zqd ?_; (case zqn => k_asm); (case zqm => k_slotget); (case zqa => decide); (case zqb => decide); (case zqc => exact rfl); (case zqd => exact rfl); k_whole))
  k_with "execs cons" => (with_reducible refine gen_toks3 (fun tk' => ?_))
  k_with "execs nil" => (with_reducible refine gen_toks3 (fun tk' => ?_))
  k_with "eval Name" => (k_here; k_dflt (first   | (refine' ld ?zqk1 ?zqk2 ?_; (case zqk1 => k_asm); (case zqk2 => exact rfl); k_whole)   | (refine' name_K ?zqkF ?zqk1 ?zqk2 ?zqk3 ?_; (case zqkF => k_asm); (case zqk1 => k_asm); (case zqk2 => k_asm); (case zqk3 => k_is); k_whole)))
  k_with "k_get" => (first | with_reducible assumption | k_slotget | exact Nat.le_trans (by with_reducible assumption) (by decide) | k_extra "P" | decide | omega | (refine intBits_le_64 ?_ ?_ <;> omega) | (exact Nat.le_trans (by bits_by_make) (by decide)) | assumption)
  k_with "ktd_handed" => (first | with_reducible assumption | decide | omega | k_extra "NZ")
  k_with "binaryOp FloorDiv int int" => (k_here; (with_reducible refine floordiv_int ?zqkbe ?_ (Or.inl (PyProof.noPylong_of_log2 ?zqkbp))); (case zqkbe => ktd_handed); (case zqkbp => exact log_of_bits (by bits_by_make) (by decide)))
  k_with "binaryOp Mod int int" => (k_here; (with_reducible refine mod_int' ?zqkbe ?_); (case zqkbe => ktd_handed))
  k_with "binaryOp Mod int int" => (with_reducible refine' mod_int_v ?zqhb ?zqe ?_; (case zqe => with_reducible assumption); (case zqhb => ktd_handed))
  k_with "binaryOp Mod int int" => (k_extra "MYMOD")
  k_with "binaryOp Mult int int" => (k_here; k_dflt (refine' PyProof.Rows.mul_int ?_ ?zqhm; (case zqhm => exact PyProof.Rows.mulOk_of_bits (by bits_by_make) (by bits_by_make) (by decide))))
  k_with "binaryOp Pow int int" => (with_reducible refine' pow2_int ?zqh ?_; (case zqh => first | with_reducible assumption | omega))
  k_with "exec Raise some none" => (exfalso; first | contradiction | omega)
  k_with "END" => (first   | (refine' ret_int ?zqh ?zqe ?zqF ?zqN ?zqsub; (case zqh => assumption); (case zqF => k_asm); (case zqN => k_asm); (case zqsub => k_slotset); (case zqe => k_put))   | (refine' ret_bool ?zqh ?zqe ?zqF ?zqN ?zqsub; (case zqh => assumption); (case zqF => k_asm); (case zqN => k_asm); (case zqsub => k_slotset); (case zqe => k_put))   | (refine' ret_pair ?zqh ?zqhm ?zqex ?zqey ?zqF ?zqN ?zqsub; (case zqh => assumption); (case zqF => k_asm); (case zqN => k_asm); (case zqsub => k_slotset); (case zqhm => k_slotget); (case zqex => k_put); (case zqey => k_put))   | (refine' ret_turn ?zqh ?zqhb ?zqhc ?zqhd ?zqe0 ?zqe1 ?zqe2 ?zqe3 ?zqF ?zqN ?zqsub; (case zqh => assumption); (case zqF => k_asm); (case zqN => k_asm); (case zqsub => k_slotset); (case zqhb => k_slotget); (case zqhc => k_slotget); (case zqhd => k_slotget); (case zqe0 => k_put); (case zqe1 => k_put); (case zqe2 => k_put); (case zqe3 => k_put)))
  k_with "exec While Compare cons nil" => (k_extra "MYWHILE")
  k_with "KswEnd" => (k_extra "MYTURN")
  k_with "x_auto" => (first | with_reducible assumption | omega | k_extra "FACT" | fail "fact")
  k_with "ite" => (first   | (with_reducible refine' ine_t ?zqh ?_; (case zqh => x_auto))   | (with_reducible refine' ine_f ?zqh ?_; (case zqh => x_auto))   | (with_reducible refine' ieq_t ?zqh ?_; (case zqh => x_auto))   | (with_reducible refine' ieq_f ?zqh ?_; (case zqh => x_auto))   | (with_reducible refine' dec_t ?zqh ?_; (case zqh => x_auto))   | (with_reducible refine' dec_f ?zqh ?_; (case zqh => x_auto)))
  k_with "eval BinOp" => (k_here; k_dflt (refine' IV.use ?zqd ?_; (case zqd => tb_rel); k_whole); intro t' tk')
  k_with "eval Tuple" => (k_here; k_dflt (refine' tup2 ?zqda ?zqdb ?zqF ?zqN ?_; (case zqda => tb_rel); (case zqdb => tb_rel); (case zqF => k_asm); (case zqN => k_asm); k_whole); intro D' t' u' h' tk' F' N' l1; (try k_lt l1); (try k_sweep))
  k_with "eval UnaryOp" => (k_here; k_dflt (refine' IV.use ?zqd ?_; (case zqd => tb_rel); k_whole); intro t' tk')
  k_with "eval Subscript" => (k_here; k_dflt (refine' IV.use ?zqd ?_; (case zqd => tb_rel); k_whole); intro t' tk')
  k_with "exec If" => (k_here; k_dflt (first | (refine' if_f ?zqd ?_; (case zqd => tb_rel); k_whole) | (refine' if_t ?zqd ?_; (case zqd => tb_rel); k_whole)); intro tk')
  k_with "OFFA" => (first | (refine' OffA.lt ?_; assumption) | (refine' OffA.cons ?zqc ?zqd; (case zqc => first | exact Or.inr (by k_cls) | exact Or.inl (by k_ne)); (case zqd => walk_at "OFFA")))
  k_with "WO" => (first | (refine' WO.here ?_; walk_at "OFFA") | (refine' WO.cons ?zqc ?zqd; (case zqc => first | exact Or.inr (by k_cls) | exact Or.inl (by k_ne)); (case zqd => walk_at "WO")))
  k_with "UnrEnd" => (refine' unr_end ?zqF ?zqN ?zqW ?_; (case zqF => k_asm); (case zqN => k_asm); (case zqW => walk_at "WO"))
  k_with "ENTER" => (refine' code_def ?zqk1 ?zqk2 ?zqk3 ?zqk4 ?zqk5 ?zqkA ?zqkF ?zqkK ?zqk6 ?zqk7 ?zqk8 ?zqk9 ?zqkB ?_ ?zqc2 ?zqc3 ?zqc4 ?zqc5; (case zqkA => exact rfl); (case zqkF => exact rfl); (case zqkK => assumption); (case zqk1 => k_asm); (case zqk2 => k_asm); (case zqk3 => k_asm); (case zqk4 => k_asm); (case zqk5 => k_asm); (case zqk6 => k_is); (case zqk7 => k_is); (case zqk8 => ktr_room); (case zqk9 => first | exact BindsTo.of_eq rfl | exact binds_K (by k_in) rfl (by k_is) rfl rfl rfl); (case zqc5 => decide); (case zqkB => exact locs rfl); (case zqc2 => exact rfl); (case zqc3 => exact rfl); (case zqc4 => exact rfl); k_whole; intro g' L' h' FG' F' N' B' X' T'; (try dsimp only); (try k_fold))
  k_with "call builtin:len" => (k_here; k_dflt (refine' len_base ?zqk1 ?zqk2 ?zqk3 ?zqk4 ?_; (case zqk1 => with_reducible assumption); (case zqk2 => k_asm); (case zqk3 => k_asm); (case zqk4 => with_reducible assumption); k_whole))
  k_with "subscriptTail Name Name ref int" => (k_here; k_dflt (refine' item_base ?zqk1 ?zqk2 ?zqk3 ?zqa ?zqb ?zqc ?_; (case zqk1 => with_reducible assumption); (case zqk2 => k_asm); (case zqk3 => k_asm); (case zqa => omega); (case zqb => omega); (case zqc => with_reducible assumption); k_whole))
  intro mean mg mb dp un gd cn cs c ccd cl outer A₀ base h₀ L m s Q E hl B F X N T hk hd hu hret
  refine wpAny_call ?_
  k_dflt walk_at "ENTER"
  walk_at "STEPS"
  all_goals (
    refine' ret_src hret ?F ?N ?l1 ?So
    case l1 => assumption
    case F => k_asm
    case N => k_asm
    case So => (refine SrcOk.mk ?_ (Nat.le_trans (by bits_by_make) (by decide)) (Int.fmod_nonneg_of_pos _ (by decide)) (Int.fmod_lt_of_pos _ (by decide)); first | omega | (split <;> omega)))
end
section
theorem RaisedSN.less {base G : Heap} {l : List Env} {e : Addr} {cls : Value} {big news : List (Addr × Obj)} {h : Heap} (R : RaisedSN base G l e cls big h) (sub : ∀ p ∈ news, p ∈ big) : RaisedSN base G l e cls news h := by
  obtain ⟨B, a0, h1, h2, h3, h4⟩ := R
  exact ⟨B, a0, h1, h2, fun q hq => h3 q (sub q hq), h4⟩
set_option maxHeartbeats 4000000 in
theorem cutE_tangent {w : World} {news : List (Addr × Obj)} {pa : Addr} {a0 a1 : Int} {ta ua : Tok} (ha : (pa, pairObj (.int a0 ta) (.int a1 ua)) ∈ news) {bt c0 c1 s0 s1 : Int} {t1 : Tok} (H : toR a0 a1 (bt * 65536) = some (c0, c1, s0, s1)) (hc : c0 = 0) (hd : 0 < a1) (hbt : 0 < bt) (z1 : Bt 100 a0) (z2 : Bt 100 a1) (z3 : Bt 100 bt) : CutE w 177 7 news [.ref pa, .int bt t1] := by
  w_top off
  unfold CutE
  k_fill
  k_with_none
  k_with "ktr_room" => (first | exact dp_le (by with_reducible assumption) (by decide) | exact dp_le0 (by with_reducible assumption) (by decide) | exact Nat.lt_of_le_of_lt (Nat.le_add_right _ _) (by with_reducible assumption) | fail "room")
  k_with "ktr_units" => (first | exact un_le (by with_reducible assumption) (by decide) | exact un_le0 (by with_reducible assumption) (by decide) | exact Nat.lt_of_le_of_lt (Nat.le_add_right _ _) (by with_reducible assumption) | fail "units")
  k_with "k_slotset" => (intro p hp; repeat (first | exact hp | refine List.mem_cons_of_mem _ ?_))
  k_with "k_put" => (first | with_reducible rfl | omega | assumption | (simp only [Int.mul_one, Int.one_mul]; done) | (simp only [signV]; (repeat' split) <;> first | with_reducible rfl | omega) | k_extra "EQ")
  k_with "bits_by_make" => (first | with_reducible assumption | ((with_reducible apply bits_fracT); bits_by_make) | ((with_reducible apply bits_fracB); bits_by_make) | exact PySem.intBits_le_64 (by decide) (by decide) | exact PySem.intBits_le_64 (by omega) (by omega) | exact bits_lit200 (by decide +kernel) | fail "bits")
  k_with "k_slotget" => (first | exact List.mem_cons_self | with_reducible assumption | (refine' List.mem_cons_of_mem _ ?_; k_slotget) | fail "mem")
  k_with "subscriptTail Name Constant ref int" => (k_here; k_dflt (refine' item_tupleT (News.isTup ?zqn ?zqm) ?zqa ?zqb ?zqc ?zqd ?_; (case zqn => k_asm); (case zqm => k_slotget); (case zqa => decide); (case zqb => decide); (case zqc => exact rfl); (case zqd => exact rfl); k_whole))
  k_with "execs cons" => (with_reducible refine gen_toks3 (fun tk' => ?_))
  k_with "execs nil" => (with_reducible refine gen_toks3 (fun tk' => ?_))
  k_with "eval Name" => (k_here; k_dflt (first   | (refine' ld ?zqk1 ?zqk2 ?_; (case zqk1 => k_asm); (case zqk2 => exact rfl); k_whole)   | (refine' name_K ?zqkF ?zqk1 ?zqk2 ?zqk3 ?_; (case zqkF => k_asm); (case zqk1 => k_asm); (case zqk2 => k_asm); (case zqk3 => k_is); k_whole)))
  k_with "k_get" => (first | with_reducible assumption | k_slotget | exact Nat.le_trans (by with_reducible assumption) (by decide) | k_extra "P" | decide | omega | (refine intBits_le_64 ?_ ?_ <;> omega) | (exact Nat.le_trans (by bits_by_make) (by decide)) | assumption)
  k_with "ktd_handed" => (first | with_reducible assumption | decide | omega | k_extra "NZ")
  k_with "binaryOp FloorDiv int int" => (k_here; (with_reducible refine floordiv_int ?zqkbe ?_ (Or.inl (PyProof.noPylong_of_log2 ?zqkbp))); (case zqkbe => ktd_handed); (case zqkbp => exact log_of_bits (by bits_by_make) (by decide)))
  k_with "binaryOp Mod int int" => (k_here; (with_reducible refine mod_int' ?zqkbe ?_); (case zqkbe => ktd_handed))
  k_with "binaryOp Mod int int" => (with_reducible refine' mod_int_v ?zqhb ?zqe ?_; (case zqe => with_reducible assumption); (case zqhb => ktd_handed))
  k_with "binaryOp Mod int int" => (k_extra "MYMOD")
  k_with "binaryOp Mult int int" => (k_here; k_dflt (refine' PyProof.Rows.mul_int ?_ ?zqhm; (case zqhm => exact PyProof.Rows.mulOk_of_bits (by bits_by_make) (by bits_by_make) (by decide))))
  k_with "binaryOp Pow int int" => (with_reducible refine' pow2_int ?zqh ?_; (case zqh => first | with_reducible assumption | omega))
  k_with "exec Raise some none" => (exfalso; first | contradiction | omega)
  k_with "END" => (first   | (refine' ret_int ?zqh ?zqe ?zqF ?zqN ?zqsub; (case zqh => assumption); (case zqF => k_asm); (case zqN => k_asm); (case zqsub => k_slotset); (case zqe => k_put))   | (refine' ret_bool ?zqh ?zqe ?zqF ?zqN ?zqsub; (case zqh => assumption); (case zqF => k_asm); (case zqN => k_asm); (case zqsub => k_slotset); (case zqe => k_put))   | (refine' ret_pair ?zqh ?zqhm ?zqex ?zqey ?zqF ?zqN ?zqsub; (case zqh => assumption); (case zqF => k_asm); (case zqN => k_asm); (case zqsub => k_slotset); (case zqhm => k_slotget); (case zqex => k_put); (case zqey => k_put))   | (refine' ret_turn ?zqh ?zqhb ?zqhc ?zqhd ?zqe0 ?zqe1 ?zqe2 ?zqe3 ?zqF ?zqN ?zqsub; (case zqh => assumption); (case zqF => k_asm); (case zqN => k_asm); (case zqsub => k_slotset); (case zqhb => k_slotget); (case zqhc => k_slotget); (case zqhd => k_slotget); (case zqe0 => k_put); (case zqe1 => k_put); (case zqe2 => k_put); (case zqe3 => k_put)))
  k_with "exec While Compare cons nil" => (k_extra "MYWHILE")
  k_with "KswEnd" => (k_extra "MYTURN")
  k_with "x_auto" => (first | with_reducible assumption | omega | k_extra "FACT" | fail "fact")
  k_with "ite" => (first   | (with_reducible refine' ine_t ?zqh ?_; (case zqh => x_auto))   | (with_reducible refine' ine_f ?zqh ?_; (case zqh => x_auto))   | (with_reducible refine' ieq_t ?zqh ?_; (case zqh => x_auto))   | (with_reducible refine' ieq_f ?zqh ?_; (case zqh => x_auto))   | (with_reducible refine' dec_t ?zqh ?_; (case zqh => x_auto))   | (with_reducible refine' dec_f ?zqh ?_; (case zqh => x_auto)))
  k_with "eval BinOp" => (k_here; k_dflt (refine' IV.use ?zqd ?_; (case zqd => tb_rel); k_whole); intro t' tk')
  k_with "eval Tuple" => (k_here; k_dflt (refine' tup2 ?zqda ?zqdb ?zqF ?zqN ?_; (case zqda => tb_rel); (case zqdb => tb_rel); (case zqF => k_asm); (case zqN => k_asm); k_whole); intro D' t' u' h' tk' F' N' l1; (try k_lt l1); (try k_sweep))
  k_with "eval UnaryOp" => (k_here; k_dflt (refine' IV.use ?zqd ?_; (case zqd => tb_rel); k_whole); intro t' tk')
  k_with "eval Subscript" => (k_here; k_dflt (refine' IV.use ?zqd ?_; (case zqd => tb_rel); k_whole); intro t' tk')
  k_with "exec If" => (k_here; k_dflt (first | (refine' if_f ?zqd ?_; (case zqd => tb_rel); k_whole) | (refine' if_t ?zqd ?_; (case zqd => tb_rel); k_whole)); intro tk')
  k_with "OFFA" => (first | (refine' OffA.lt ?_; assumption) | (refine' OffA.cons ?zqc ?zqd; (case zqc => first | exact Or.inr (by k_cls) | exact Or.inl (by k_ne)); (case zqd => walk_at "OFFA")))
  k_with "WO" => (first | (refine' WO.here ?_; walk_at "OFFA") | (refine' WO.cons ?zqc ?zqd; (case zqc => first | exact Or.inr (by k_cls) | exact Or.inl (by k_ne)); (case zqd => walk_at "WO")))
  k_with "UnrEnd" => (refine' unr_end ?zqF ?zqN ?zqW ?_; (case zqF => k_asm); (case zqN => k_asm); (case zqW => walk_at "WO"))
  k_with "ENTER" => (refine' code_def ?zqk1 ?zqk2 ?zqk3 ?zqk4 ?zqk5 ?zqkA ?zqkF ?zqkK ?zqk6 ?zqk7 ?zqk8 ?zqk9 ?zqkB ?_ ?zqc2 ?zqc3 ?zqc4 ?zqc5; (case zqkA => exact rfl); (case zqkF => exact rfl); (case zqkK => assumption); (case zqk1 => k_asm); (case zqk2 => k_asm); (case zqk3 => k_asm); (case zqk4 => k_asm); (case zqk5 => k_asm); (case zqk6 => k_is); (case zqk7 => k_is); (case zqk8 => ktr_room); (case zqk9 => first | exact BindsTo.of_eq rfl | exact binds_K (by k_in) rfl (by k_is) rfl rfl rfl); (case zqc5 => decide); (case zqkB => exact locs rfl); (case zqc2 => exact rfl); (case zqc3 => exact rfl); (case zqc4 => exact rfl); k_whole; intro g' L' h' FG' F' N' B' X' T'; (try dsimp only); (try k_fold))
  k_with "exec Raise some none" => (k_here; k_dflt (refine' raise_fault ?zqF ?zqX ?zqT ?zqhh ?zqr ?_ ?zqc1 ?zqc2; (case zqF => k_asm); (case zqX => k_asm); (case zqT => k_asm); (case zqhh => exact rfl); (case zqc1 => exact rfl); (case zqc2 => exact rfl); (case zqr => ktr_room); k_whole); intro h' tk' e' x')
  k_with "leaving ref" => (k_here; (refine' leave_fault ?zqk1 ?zqk0 ?zqk2 ?zqk3 ?_; (case zqk0 => assumption); (case zqk1 => assumption); (case zqk2 => assumption); (case zqk3 => k_asm); k_whole; intro h' R' U'; (try dsimp only at R' U' ⊢)))
  k_with "call ref" => (k_here; k_dflt (refine' use_turn (cut_turn ?zqp0 ?zqp1 ?zqp2 ?zqp3 ?zqp4 ?zqp5 ?zqp6) ?zqk1 ?zqk2 ?zqk3 ?zqk4 ?zqk5 ?zqkK ?zqkd ?zqku ?_; (case zqk1 => k_asm); (case zqk2 => k_asm); (case zqk3 => k_asm); (case zqk4 => k_asm); (case zqk5 => k_asm); (case zqkK => first | exact rfl | assumption); (case zqp0 => k_get); (case zqp1 => k_get); (case zqp2 => k_get); (case zqp3 => k_get); (case zqp4 => k_get); (case zqp5 => k_get); (case zqp6 => k_get); (case zqkd => ktr_room); (case zqku => ktr_units); k_whole; intro a' c' d' t' u' v' z' h' tk' F' N'; (try k_sweep); (try dsimp only); (try k_fold)))
  intro mean mg mb dp un gd cn cs c ccd cl outer A₀ base h₀ L m s Q E B F X N T hk hd hu hret
  refine wpAny_call ?_
  k_dflt walk_at "ENTER"
  walk_at "STEPS"
  all_goals exact hret _ _ _ _ (by assumption) (RaisedSN.less (by assumption) (by k_slotset)) (by assumption)
set_option maxHeartbeats 4000000 in
theorem cutE_degrees {w : World} {news : List (Addr × Obj)} {px : Addr} {x0 x1 : Int} {tx ux : Tok} (hx : (px, pairObj (.int x0 tx) (.int x1 ux)) ∈ news) {py : Addr} {y0 y1 : Int} {ty uy : Tok} (hy : (py, pairObj (.int y0 ty) (.int y1 uy)) ∈ news) (h1 : ((x0.natAbs : Nat) : Int) * y1 = 0) (h2 : ((y0.natAbs : Nat) : Int) * x1 = 0) (z1 : Bt 40 x0) (z2 : Bt 40 x1) (z3 : Bt 40 y0) (z4 : Bt 40 y1) : CutE w 199 4 news [.ref px, .ref py] := by
  unfold CutE
  k_fill
  k_with_none
  k_with "ktr_room" => (first | exact dp_le (by with_reducible assumption) (by decide) | exact dp_le0 (by with_reducible assumption) (by decide) | exact Nat.lt_of_le_of_lt (Nat.le_add_right _ _) (by with_reducible assumption) | fail "room")
  k_with "ktr_units" => (first | exact un_le (by with_reducible assumption) (by decide) | exact un_le0 (by with_reducible assumption) (by decide) | exact Nat.lt_of_le_of_lt (Nat.le_add_right _ _) (by with_reducible assumption) | fail "units")
  k_with "k_slotset" => (intro p hp; repeat (first | exact hp | refine List.mem_cons_of_mem _ ?_))
  k_with "k_put" => (first | with_reducible rfl | omega | assumption | (simp only [Int.mul_one, Int.one_mul]; done) | (simp only [signV]; (repeat' split) <;> first | with_reducible rfl | omega) | k_extra "EQ")
  k_with "bits_by_make" => (first | with_reducible assumption | ((with_reducible apply bits_fracT); bits_by_make) | ((with_reducible apply bits_fracB); bits_by_make) | exact PySem.intBits_le_64 (by decide) (by decide) | exact PySem.intBits_le_64 (by omega) (by omega) | exact bits_lit200 (by decide +kernel) | fail "bits")
  k_with "k_slotget" => (first | exact List.mem_cons_self | with_reducible assumption | (refine' List.mem_cons_of_mem _ ?_; k_slotget) | fail "mem")
  k_with "subscriptTail Name Constant ref int" => (k_here; k_dflt (refine' item_tupleT (News.isTup ?zqn ?zqm) ?zqa ?zqb ?zqc ?zqd ?_; (case zqn => k_asm); (case zqm => k_slotget); (case zqa => decide); (case zqb => decide); (case zqc => exact rfl); (case zqd => exact rfl); k_whole))
  k_with "execs cons" => (with_reducible refine gen_toks3 (fun tk' => ?_))
  k_with "execs nil" => (with_reducible refine gen_toks3 (fun tk' => ?_))
  k_with "eval Name" => (k_here; k_dflt (first   | (refine' ld ?zqk1 ?zqk2 ?_; (case zqk1 => k_asm); (case zqk2 => exact rfl); k_whole)   | (refine' name_K ?zqkF ?zqk1 ?zqk2 ?zqk3 ?_; (case zqkF => k_asm); (case zqk1 => k_asm); (case zqk2 => k_asm); (case zqk3 => k_is); k_whole)))
  k_with "k_get" => (first | with_reducible assumption | k_slotget | exact Nat.le_trans (by with_reducible assumption) (by decide) | k_extra "P" | decide | omega | (refine intBits_le_64 ?_ ?_ <;> omega) | (exact Nat.le_trans (by bits_by_make) (by decide)) | assumption)
  k_with "ktd_handed" => (first | with_reducible assumption | decide | omega | k_extra "NZ")
  k_with "binaryOp FloorDiv int int" => (k_here; (with_reducible refine floordiv_int ?zqkbe ?_ (Or.inl (PyProof.noPylong_of_log2 ?zqkbp))); (case zqkbe => ktd_handed); (case zqkbp => exact log_of_bits (by bits_by_make) (by decide)))
  k_with "binaryOp Mod int int" => (k_here; (with_reducible refine mod_int' ?zqkbe ?_); (case zqkbe => ktd_handed))
  k_with "binaryOp Mod int int" => (with_reducible refine' mod_int_v ?zqhb ?zqe ?_; (case zqe => with_reducible assumption); (case zqhb => ktd_handed))
  k_with "binaryOp Mod int int" => (k_extra "MYMOD")
  k_with "binaryOp Mult int int" => (k_here; k_dflt (refine' PyProof.Rows.mul_int ?_ ?zqhm; (case zqhm => exact PyProof.Rows.mulOk_of_bits (by bits_by_make) (by bits_by_make) (by decide))))
  k_with "binaryOp Pow int int" => (with_reducible refine' pow2_int ?zqh ?_; (case zqh => first | with_reducible assumption | omega))
  k_with "exec Raise some none" => (exfalso; first | contradiction | omega)
  k_with "END" => (first   | (refine' ret_int ?zqh ?zqe ?zqF ?zqN ?zqsub; (case zqh => assumption); (case zqF => k_asm); (case zqN => k_asm); (case zqsub => k_slotset); (case zqe => k_put))   | (refine' ret_bool ?zqh ?zqe ?zqF ?zqN ?zqsub; (case zqh => assumption); (case zqF => k_asm); (case zqN => k_asm); (case zqsub => k_slotset); (case zqe => k_put))   | (refine' ret_pair ?zqh ?zqhm ?zqex ?zqey ?zqF ?zqN ?zqsub; (case zqh => assumption); (case zqF => k_asm); (case zqN => k_asm); (case zqsub => k_slotset); (case zqhm => k_slotget); (case zqex => k_put); (case zqey => k_put))   | (refine' ret_turn ?zqh ?zqhb ?zqhc ?zqhd ?zqe0 ?zqe1 ?zqe2 ?zqe3 ?zqF ?zqN ?zqsub; (case zqh => assumption); (case zqF => k_asm); (case zqN => k_asm); (case zqsub => k_slotset); (case zqhb => k_slotget); (case zqhc => k_slotget); (case zqhd => k_slotget); (case zqe0 => k_put); (case zqe1 => k_put); (case zqe2 => k_put); (case zqe3 => k_put)))
  k_with "exec While Compare cons nil" => (k_extra "MYWHILE")
  k_with "KswEnd" => (k_extra "MYTURN")
  k_with "x_auto" => (first | with_reducible assumption | omega | k_extra "FACT" | fail "fact")
  k_with "ite" => (first   | (with_reducible refine' ine_t ?zqh ?_; (case zqh => x_auto))   | (with_reducible refine' ine_f ?zqh ?_; (case zqh => x_auto))   | (with_reducible refine' ieq_t ?zqh ?_; (case zqh => x_auto))   | (with_reducible refine' ieq_f ?zqh ?_; (case zqh => x_auto))   | (with_reducible refine' dec_t ?zqh ?_; (case zqh => x_auto))   | (with_reducible refine' dec_f ?zqh ?_; (case zqh => x_auto)))
  k_with "eval BinOp" => (k_here; k_dflt (refine' IV.use ?zqd ?_; (case zqd => tb_rel); k_whole); intro t' tk')
  k_with "eval Tuple" => (k_here; k_dflt (refine' tup2 ?zqda ?zqdb ?zqF ?zqN ?_; (case zqda => tb_rel); (case zqdb => tb_rel); (case zqF => k_asm); (case zqN => k_asm); k_whole); intro D' t' u' h' tk' F' N' l1; (try k_lt l1); (try k_sweep))
  k_with "eval UnaryOp" => (k_here; k_dflt (refine' IV.use ?zqd ?_; (case zqd => tb_rel); k_whole); intro t' tk')
  k_with "eval Subscript" => (k_here; k_dflt (refine' IV.use ?zqd ?_; (case zqd => tb_rel); k_whole); intro t' tk')
  k_with "exec If" => (k_here; k_dflt (first | (refine' if_f ?zqd ?_; (case zqd => tb_rel); k_whole) | (refine' if_t ?zqd ?_; (case zqd => tb_rel); k_whole)); intro tk')
  k_with "OFFA" => (first | (refine' OffA.lt ?_; assumption) | (refine' OffA.cons ?zqc ?zqd; (case zqc => first | exact Or.inr (by k_cls) | exact Or.inl (by k_ne)); (case zqd => walk_at "OFFA")))
  k_with "WO" => (first | (refine' WO.here ?_; walk_at "OFFA") | (refine' WO.cons ?zqc ?zqd; (case zqc => first | exact Or.inr (by k_cls) | exact Or.inl (by k_ne)); (case zqd => walk_at "WO")))
  k_with "UnrEnd" => (refine' unr_end ?zqF ?zqN ?zqW ?_; (case zqF => k_asm); (case zqN => k_asm); (case zqW => walk_at "WO"))
  k_with "ENTER" => (refine' code_def ?zqk1 ?zqk2 ?zqk3 ?zqk4 ?zqk5 ?zqkA ?zqkF ?zqkK ?zqk6 ?zqk7 ?zqk8 ?zqk9 ?zqkB ?_ ?zqc2 ?zqc3 ?zqc4 ?zqc5; (case zqkA => exact rfl); (case zqkF => exact rfl); (case zqkK => assumption); (case zqk1 => k_asm); (case zqk2 => k_asm); (case zqk3 => k_asm); (case zqk4 => k_asm); (case zqk5 => k_asm); (case zqk6 => k_is); (case zqk7 => k_is); (case zqk8 => ktr_room); (case zqk9 => first | exact BindsTo.of_eq rfl | exact binds_K (by k_in) rfl (by k_is) rfl rfl rfl); (case zqc5 => decide); (case zqkB => exact locs rfl); (case zqc2 => exact rfl); (case zqc3 => exact rfl); (case zqc4 => exact rfl); k_whole; intro g' L' h' FG' F' N' B' X' T'; (try dsimp only); (try k_fold))
  k_with "exec Raise some none" => (k_here; k_dflt (refine' raise_fault ?zqF ?zqX ?zqT ?zqhh ?zqr ?_ ?zqc1 ?zqc2; (case zqF => k_asm); (case zqX => k_asm); (case zqT => k_asm); (case zqhh => exact rfl); (case zqc1 => exact rfl); (case zqc2 => exact rfl); (case zqr => ktr_room); k_whole); intro h' tk' e' x')
  k_with "leaving ref" => (k_here; (refine' leave_fault ?zqk1 ?zqk0 ?zqk2 ?zqk3 ?_; (case zqk0 => assumption); (case zqk1 => assumption); (case zqk2 => assumption); (case zqk3 => k_asm); k_whole; intro h' R' U'; (try dsimp only at R' U' ⊢)))
  k_with "call ref" => (k_here; k_dflt (refine' use_turn (cut_turn ?zqp0 ?zqp1 ?zqp2 ?zqp3 ?zqp4 ?zqp5 ?zqp6) ?zqk1 ?zqk2 ?zqk3 ?zqk4 ?zqk5 ?zqkK ?zqkd ?zqku ?_; (case zqk1 => k_asm); (case zqk2 => k_asm); (case zqk3 => k_asm); (case zqk4 => k_asm); (case zqk5 => k_asm); (case zqkK => first | exact rfl | assumption); (case zqp0 => k_get); (case zqp1 => k_get); (case zqp2 => k_get); (case zqp3 => k_get); (case zqp4 => k_get); (case zqp5 => k_get); (case zqp6 => k_get); (case zqkd => ktr_room); (case zqku => ktr_units); k_whole; intro a' c' d' t' u' v' z' h' tk' F' N'; (try k_sweep); (try dsimp only); (try k_fold)))
  k_with "call ref" => (k_here; k_dflt (refine' use_pair (cut_absolute ?zqp0) ?zqk1 ?zqk2 ?zqk3 ?zqk4 ?zqk5 ?zqkK ?zqkd ?zqku ?_; (case zqk1 => k_asm); (case zqk2 => k_asm); (case zqk3 => k_asm); (case zqk4 => k_asm); (case zqk5 => k_asm); (case zqkK => first | exact rfl | assumption); (case zqp0 => k_get); (case zqkd => ktr_room); (case zqku => ktr_units); k_whole; intro a' t' u' h' tk' F' N'; (try k_sweep); (try dsimp only); (try k_fold)))
  intro mean mg mb dp un gd cn cs c ccd cl outer A₀ base h₀ L m s Q E B F X N T hk hd hu hret
  refine wpAny_call ?_
  k_dflt walk_at "ENTER"
  walk_at "STEPS"
  all_goals exact hret _ _ _ _ (by assumption) (RaisedSN.less (by assumption) (by k_slotset)) (by assumption)
end
section
set_option maxHeartbeats 4000000 in
theorem cut_tan_1 {w : World} {news : List (Addr × Obj)} {pa : Addr} {a0 a1 : Int} {ta ua : Tok} (ha : (pa, pairObj (.int a0 ta) (.int a1 ua)) ∈ news) {c0 c1 s0 s1 p q u v R x y C0 C1 S0 S1 : Int} (H : toR a0 a1 (4096 * 65536) = some (c0, c1, s0, s1)) (hc : c0 ≠ 0) (hs : s1 * c0 ≠ 0) (e1 : fracT (s0 * c1) (s1 * c0) = p) (e2 : fracB (s0 * c1) (s1 * c0) = q) (e3 : fracT (p * 4096) (q * 1) = u) (e4 : fracB (p * 4096) (q * 1) = v) (e5 : (2 * u + v).fdiv (2 * v) = R) (e6 : fracT R 4096 = x) (e7 : fracB R 4096 = y) (hd : 0 < a1) (z1 : Bt 60 a0) (z2 : Bt 60 a1) (y1 : Bt 60 c0) (y2 : Bt 60 c1) (y3 : Bt 60 s0) (y4 : Bt 60 s1) (hm : a0.fmod (180 * a1) ≠ 90 * a1) (H2 : toR a0 a1 1073741824 = some (C0, C1, S0, S1)) (u1 : Bt 60 C0) (u2 : Bt 60 C1) (u3 : Bt 60 S0) (u4 : Bt 60 S1) (v1 : Bt 1000 x) (v2 : Bt 1000 y) (hlt : ((C0.natAbs : Nat) : Int) * 100 < C1) : Cut w 281 10 news [.ref pa] (OBool true) := by
  w_top off
  unfold Cut
  k_fill
  k_with_none
  k_with "ktr_room" => (first | exact dp_le (by with_reducible assumption) (by decide) | exact dp_le0 (by with_reducible assumption) (by decide) | exact Nat.lt_of_le_of_lt (Nat.le_add_right _ _) (by with_reducible assumption) | fail "room")
  k_with "ktr_units" => (first | exact un_le (by with_reducible assumption) (by decide) | exact un_le0 (by with_reducible assumption) (by decide) | exact Nat.lt_of_le_of_lt (Nat.le_add_right _ _) (by with_reducible assumption) | fail "units")
  k_with "k_slotset" => (intro p hp; repeat (first | exact hp | refine List.mem_cons_of_mem _ ?_))
  k_with "k_put" => (first | with_reducible rfl | omega | assumption | (simp only [Int.mul_one, Int.one_mul]; done) | (simp only [signV]; (repeat' split) <;> first | with_reducible rfl | omega) | k_extra "EQ")
  k_with "bits_by_make" => (first | with_reducible assumption | ((with_reducible apply bits_fracT); bits_by_make) | ((with_reducible apply bits_fracB); bits_by_make) | exact PySem.intBits_le_64 (by decide) (by decide) | exact PySem.intBits_le_64 (by omega) (by omega) | exact bits_lit200 (by decide +kernel) | fail "bits")
  k_with "k_slotget" => (first | exact List.mem_cons_self | with_reducible assumption | (refine' List.mem_cons_of_mem _ ?_; k_slotget) | fail "mem")
  k_with "subscriptTail Name Constant ref int" => (k_here; k_dflt (refine' item_tupleT (News.isTup ?zqn ?zqm) ?zqa ?zqb ?zqc ?zqd ?_; (case zqn => k_asm); (case zqm => k_slotget); (case zqa => decide); (case zqb => decide); (case zqc => exact rfl); (case zqd => exact rfl); k_whole))
  k_with "execs cons" => (with_reducible refine gen_toks3 (fun tk' => ?_))
  k_with "execs nil" => (with_reducible refine gen_toks3 (fun tk' => ?_))
  k_with "eval Name" => (k_here; k_dflt (first   | (refine' ld ?zqk1 ?zqk2 ?_; (case zqk1 => k_asm); (case zqk2 => exact rfl); k_whole)   | (refine' name_K ?zqkF ?zqk1 ?zqk2 ?zqk3 ?_; (case zqkF => k_asm); (case zqk1 => k_asm); (case zqk2 => k_asm); (case zqk3 => k_is); k_whole)))
  k_with "k_get" => (first | with_reducible assumption | k_slotget | exact Nat.le_trans (by with_reducible assumption) (by decide) | k_extra "P" | decide | omega | (refine intBits_le_64 ?_ ?_ <;> omega) | (exact Nat.le_trans (by bits_by_make) (by decide)) | assumption)
  k_with "ktd_handed" => (first | with_reducible assumption | decide | omega | k_extra "NZ")
  k_with "binaryOp FloorDiv int int" => (k_here; (with_reducible refine floordiv_int ?zqkbe ?_ (Or.inl (PyProof.noPylong_of_log2 ?zqkbp))); (case zqkbe => ktd_handed); (case zqkbp => exact log_of_bits (by bits_by_make) (by decide)))
  k_with "binaryOp Mod int int" => (k_here; (with_reducible refine mod_int' ?zqkbe ?_); (case zqkbe => ktd_handed))
  k_with "binaryOp Mod int int" => (with_reducible refine' mod_int_v ?zqhb ?zqe ?_; (case zqe => with_reducible assumption); (case zqhb => ktd_handed))
  k_with "binaryOp Mod int int" => (k_extra "MYMOD")
  k_with "binaryOp Mult int int" => (k_here; k_dflt (refine' PyProof.Rows.mul_int ?_ ?zqhm; (case zqhm => exact PyProof.Rows.mulOk_of_bits (by bits_by_make) (by bits_by_make) (by decide))))
  k_with "binaryOp Pow int int" => (with_reducible refine' pow2_int ?zqh ?_; (case zqh => first | with_reducible assumption | omega))
  k_with "exec Raise some none" => (exfalso; first | contradiction | omega)
  k_with "END" => (first   | (refine' ret_int ?zqh ?zqe ?zqF ?zqN ?zqsub; (case zqh => assumption); (case zqF => k_asm); (case zqN => k_asm); (case zqsub => k_slotset); (case zqe => k_put))   | (refine' ret_bool ?zqh ?zqe ?zqF ?zqN ?zqsub; (case zqh => assumption); (case zqF => k_asm); (case zqN => k_asm); (case zqsub => k_slotset); (case zqe => k_put))   | (refine' ret_pair ?zqh ?zqhm ?zqex ?zqey ?zqF ?zqN ?zqsub; (case zqh => assumption); (case zqF => k_asm); (case zqN => k_asm); (case zqsub => k_slotset); (case zqhm => k_slotget); (case zqex => k_put); (case zqey => k_put))   | (refine' ret_turn ?zqh ?zqhb ?zqhc ?zqhd ?zqe0 ?zqe1 ?zqe2 ?zqe3 ?zqF ?zqN ?zqsub; (case zqh => assumption); (case zqF => k_asm); (case zqN => k_asm); (case zqsub => k_slotset); (case zqhb => k_slotget); (case zqhc => k_slotget); (case zqhd => k_slotget); (case zqe0 => k_put); (case zqe1 => k_put); (case zqe2 => k_put); (case zqe3 => k_put)))
  k_with "exec While Compare cons nil" => (k_extra "MYWHILE")
  k_with "KswEnd" => (k_extra "MYTURN")
  k_with "x_auto" => (first | with_reducible assumption | omega | k_extra "FACT" | fail "fact")
  k_with "ite" => (first   | (with_reducible refine' ine_t ?zqh ?_; (case zqh => x_auto))   | (with_reducible refine' ine_f ?zqh ?_; (case zqh => x_auto))   | (with_reducible refine' ieq_t ?zqh ?_; (case zqh => x_auto))   | (with_reducible refine' ieq_f ?zqh ?_; (case zqh => x_auto))   | (with_reducible refine' dec_t ?zqh ?_; (case zqh => x_auto))   | (with_reducible refine' dec_f ?zqh ?_; (case zqh => x_auto)))
  k_with "eval BinOp" => (k_here; k_dflt (refine' IV.use ?zqd ?_; (case zqd => tb_rel); k_whole); intro t' tk')
  k_with "eval Tuple" => (k_here; k_dflt (refine' tup2 ?zqda ?zqdb ?zqF ?zqN ?_; (case zqda => tb_rel); (case zqdb => tb_rel); (case zqF => k_asm); (case zqN => k_asm); k_whole); intro D' t' u' h' tk' F' N' l1; (try k_lt l1); (try k_sweep))
  k_with "eval UnaryOp" => (k_here; k_dflt (refine' IV.use ?zqd ?_; (case zqd => tb_rel); k_whole); intro t' tk')
  k_with "eval Subscript" => (k_here; k_dflt (refine' IV.use ?zqd ?_; (case zqd => tb_rel); k_whole); intro t' tk')
  k_with "exec If" => (k_here; k_dflt (first | (refine' if_f ?zqd ?_; (case zqd => tb_rel); k_whole) | (refine' if_t ?zqd ?_; (case zqd => tb_rel); k_whole)); intro tk')
  k_with "OFFA" => (first | (refine' OffA.lt ?_; assumption) | (refine' OffA.cons ?zqc ?zqd; (case zqc => first | exact Or.inr (by k_cls) | exact Or.inl (by k_ne)); (case zqd => walk_at "OFFA")))
  k_with "WO" => (first | (refine' WO.here ?_; walk_at "OFFA") | (refine' WO.cons ?zqc ?zqd; (case zqc => first | exact Or.inr (by k_cls) | exact Or.inl (by k_ne)); (case zqd => walk_at "WO")))
  k_with "UnrEnd" => (refine' unr_end ?zqF ?zqN ?zqW ?_; (case zqF => k_asm); (case zqN => k_asm); (case zqW => walk_at "WO"))
  k_with "ENTER" => (refine' code_def ?zqk1 ?zqk2 ?zqk3 ?zqk4 ?zqk5 ?zqkA ?zqkF ?zqkK ?zqk6 ?zqk7 ?zqk8 ?zqk9 ?zqkB ?_ ?zqc2 ?zqc3 ?zqc4 ?zqc5; (case zqkA => exact rfl); (case zqkF => exact rfl); (case zqkK => assumption); (case zqk1 => k_asm); (case zqk2 => k_asm); (case zqk3 => k_asm); (case zqk4 => k_asm); (case zqk5 => k_asm); (case zqk6 => k_is); (case zqk7 => k_is); (case zqk8 => ktr_room); (case zqk9 => first | exact BindsTo.of_eq rfl | exact binds_K (by k_in) rfl (by k_is) rfl rfl rfl); (case zqc5 => decide); (case zqkB => exact locs rfl); (case zqc2 => exact rfl); (case zqc3 => exact rfl); (case zqc4 => exact rfl); k_whole; intro g' L' h' FG' F' N' B' X' T'; (try dsimp only); (try k_fold))
  k_with "call ref" => (k_here; k_dflt (refine' use_turn (cut_turn ?zqp0 ?zqp1 ?zqp2 ?zqp3 ?zqp4 ?zqp5 ?zqp6) ?zqk1 ?zqk2 ?zqk3 ?zqk4 ?zqk5 ?zqkK ?zqkd ?zqku ?_; (case zqk1 => k_asm); (case zqk2 => k_asm); (case zqk3 => k_asm); (case zqk4 => k_asm); (case zqk5 => k_asm); (case zqkK => first | exact rfl | assumption); (case zqp0 => k_get); (case zqp1 => k_get); (case zqp2 => k_get); (case zqp3 => k_get); (case zqp4 => k_get); (case zqp5 => k_get); (case zqp6 => k_get); (case zqkd => ktr_room); (case zqku => ktr_units); k_whole; intro a' c' d' t' u' v' z' h' tk' F' N'; (try k_sweep); (try dsimp only); (try k_fold)))
  k_with "call ref" => (k_here; k_dflt (refine' use_bool (cut_is_near ?zqp0 ?zqp1 ?zqp2 ?zqp3 ?zqp4 ?zqp5 ?zqp6 ?zqp7 ?zqp8) ?zqk1 ?zqk2 ?zqk3 ?zqk4 ?zqk5 ?zqkK ?zqkd ?zqku ?_; (case zqk1 => k_asm); (case zqk2 => k_asm); (case zqk3 => k_asm); (case zqk4 => k_asm); (case zqk5 => k_asm); (case zqkK => first | exact rfl | assumption); (case zqp0 => k_get); (case zqp1 => k_get); (case zqp2 => k_get); (case zqp3 => k_get); (case zqp4 => k_get); (case zqp5 => k_get); (case zqp6 => k_get); (case zqp7 => k_get); (case zqp8 => k_get); (case zqkd => ktr_room); (case zqku => ktr_units); k_whole; intro h' tk' F' N'; (try k_sweep); (try dsimp only); (try k_fold)))
  k_with "call ref" => (k_here; k_dflt (refine' use_pair (cut_fractionE ?zqp0 ?zqp1 ?zqp2 ?zqp3) ?zqk1 ?zqk2 ?zqk3 ?zqk4 ?zqk5 ?zqkK ?zqkd ?zqku ?_; (case zqk1 => k_asm); (case zqk2 => k_asm); (case zqk3 => k_asm); (case zqk4 => k_asm); (case zqk5 => k_asm); (case zqkK => first | exact rfl | assumption); (case zqp0 => k_get); (case zqp1 => k_get); (case zqp2 => k_get); (case zqp3 => k_get); (case zqkd => ktr_room); (case zqku => ktr_units); k_whole; intro a' t' u' h' tk' F' N'; (try k_sweep); (try dsimp only); (try k_fold)))
  k_with "call ref" => (k_here; k_dflt (refine' use_pair (cut_tangent ?zqp0 ?zqp1 ?zqp2 ?zqp3 ?zqp4 ?zqp5 ?zqp6 ?zqp7 ?zqp8 ?zqp9 ?zqp10 ?zqp11 ?zqp12 ?zqp13 ?zqp14 ?zqp15 ?zqp16 ?zqp17 ?zqp18 ?zqp19) ?zqk1 ?zqk2 ?zqk3 ?zqk4 ?zqk5 ?zqkK ?zqkd ?zqku ?_; (case zqk1 => k_asm); (case zqk2 => k_asm); (case zqk3 => k_asm); (case zqk4 => k_asm); (case zqk5 => k_asm); (case zqkK => first | exact rfl | assumption); (case zqp0 => k_get); (case zqp1 => k_get); (case zqp2 => k_get); (case zqp3 => k_get); (case zqp4 => k_get); (case zqp5 => k_get); (case zqp6 => k_get); (case zqp7 => k_get); (case zqp8 => k_get); (case zqp9 => k_get); (case zqp10 => k_get); (case zqp11 => k_get); (case zqp12 => k_get); (case zqp13 => k_get); (case zqp14 => k_get); (case zqp15 => k_get); (case zqp16 => k_get); (case zqp17 => k_get); (case zqp18 => k_get); (case zqp19 => k_get); (case zqkd => ktr_room); (case zqku => ktr_units); k_whole; intro a' t' u' h' tk' F' N'; (try k_sweep); (try dsimp only); (try k_fold)))
  intro mean mg mb dp un gd cn cs c ccd cl outer A₀ base h₀ L m s Q E B F X N T hk hd hu hret
  have hb4 : (0 : Int) < 4096 := by decide
  walk_at "WALK"
set_option maxHeartbeats 4000000 in
theorem cut_tan_2 {w : World} {news : List (Addr × Obj)} {pa : Addr} {a0 a1 : Int} {ta ua : Tok} (ha : (pa, pairObj (.int a0 ta) (.int a1 ua)) ∈ news) {c0 c1 s0 s1 p q u v R x y C0 C1 S0 S1 : Int} (H : toR a0 a1 (4096 * 65536) = some (c0, c1, s0, s1)) (hc : c0 ≠ 0) (hs : s1 * c0 ≠ 0) (e1 : fracT (s0 * c1) (s1 * c0) = p) (e2 : fracB (s0 * c1) (s1 * c0) = q) (e3 : fracT (p * 4096) (q * 1) = u) (e4 : fracB (p * 4096) (q * 1) = v) (e5 : (2 * u + v).fdiv (2 * v) = R) (e6 : fracT R 4096 = x) (e7 : fracB R 4096 = y) (hd : 0 < a1) (z1 : Bt 60 a0) (z2 : Bt 60 a1) (y1 : Bt 60 c0) (y2 : Bt 60 c1) (y3 : Bt 60 s0) (y4 : Bt 60 s1) (hm : a0.fmod (180 * a1) ≠ 90 * a1) (H2 : toR a0 a1 1073741824 = some (C0, C1, S0, S1)) (u1 : Bt 60 C0) (u2 : Bt 60 C1) (u3 : Bt 60 S0) (u4 : Bt 60 S1) (v1 : Bt 1000 x) (v2 : Bt 1000 y) {f0 f1 : Int} (hlt : ¬ ((C0.natAbs : Nat) : Int) * 100 < C1) (g1 : fracT (S0 * C1) (S1 * C0) = f0) (g2 : fracB (S0 * C1) (S1 * C0) = f1) (g3 : S1 * C0 ≠ 0) (hnr : ((((x * f1 - f0 * y)).natAbs : Nat) : Int) * 4096 ≤ 1 * (y * f1)) (w1 : Bt 1000 f0) (w2 : Bt 1000 f1) : Cut w 281 10 news [.ref pa] (OBool true) := by
  unfold Cut
  k_fill
  k_with_none
  k_with "ktr_room" => (first | exact dp_le (by with_reducible assumption) (by decide) | exact dp_le0 (by with_reducible assumption) (by decide) | exact Nat.lt_of_le_of_lt (Nat.le_add_right _ _) (by with_reducible assumption) | fail "room")
  k_with "ktr_units" => (first | exact un_le (by with_reducible assumption) (by decide) | exact un_le0 (by with_reducible assumption) (by decide) | exact Nat.lt_of_le_of_lt (Nat.le_add_right _ _) (by with_reducible assumption) | fail "units")
  k_with "k_slotset" => (intro p hp; repeat (first | exact hp | refine List.mem_cons_of_mem _ ?_))
  k_with "k_put" => (first | with_reducible rfl | omega | assumption | (simp only [Int.mul_one, Int.one_mul]; done) | (simp only [signV]; (repeat' split) <;> first | with_reducible rfl | omega) | k_extra "EQ")
  k_with "bits_by_make" => (first | with_reducible assumption | ((with_reducible apply bits_fracT); bits_by_make) | ((with_reducible apply bits_fracB); bits_by_make) | exact PySem.intBits_le_64 (by decide) (by decide) | exact PySem.intBits_le_64 (by omega) (by omega) | exact bits_lit200 (by decide +kernel) | fail "bits")
  k_with "k_slotget" => (first | exact List.mem_cons_self | with_reducible assumption | (refine' List.mem_cons_of_mem _ ?_; k_slotget) | fail "mem")
  k_with "subscriptTail Name Constant ref int" => (k_here; k_dflt (refine' item_tupleT (News.isTup ?zqn ?zqm) ?zqa ?zqb ?zqc ?zqd ?_; (case zqn => k_asm); (case zqm => k_slotget); (case zqa => decide); (case zqb => decide); (case zqc => exact rfl); (case zqd => exact rfl); k_whole))
  k_with "execs cons" => (with_reducible refine gen_toks3 (fun tk' => ?_))
  k_with "execs nil" => (with_reducible refine gen_toks3 (fun tk' => ?_))
  k_with "eval Name" => (k_here; k_dflt (first   | (refine' ld ?zqk1 ?zqk2 ?_; (case zqk1 => k_asm); (case zqk2 => exact rfl); k_whole)   | (refine' name_K ?zqkF ?zqk1 ?zqk2 ?zqk3 ?_; (case zqkF => k_asm); (case zqk1 => k_asm); (case zqk2 => k_asm); (case zqk3 => k_is); k_whole)))
  k_with "k_get" => (first | with_reducible assumption | k_slotget | exact Nat.le_trans (by with_reducible assumption) (by decide) | k_extra "P" | decide | omega | (refine intBits_le_64 ?_ ?_ <;> omega) | (exact Nat.le_trans (by bits_by_make) (by decide)) | assumption)
  k_with "ktd_handed" => (first | with_reducible assumption | decide | omega | k_extra "NZ")
  k_with "binaryOp FloorDiv int int" => (k_here; (with_reducible refine floordiv_int ?zqkbe ?_ (Or.inl (PyProof.noPylong_of_log2 ?zqkbp))); (case zqkbe => ktd_handed); (case zqkbp => exact log_of_bits (by bits_by_make) (by decide)))
  k_with "binaryOp Mod int int" => (k_here; (with_reducible refine mod_int' ?zqkbe ?_); (case zqkbe => ktd_handed))
  k_with "binaryOp Mod int int" => (with_reducible refine' mod_int_v ?zqhb ?zqe ?_; (case zqe => with_reducible assumption); (case zqhb => ktd_handed))
  k_with "binaryOp Mod int int" => (k_extra "MYMOD")
  k_with "binaryOp Mult int int" => (k_here; k_dflt (refine' PyProof.Rows.mul_int ?_ ?zqhm; (case zqhm => exact PyProof.Rows.mulOk_of_bits (by bits_by_make) (by bits_by_make) (by decide))))
  k_with "binaryOp Pow int int" => (with_reducible refine' pow2_int ?zqh ?_; (case zqh => first | with_reducible assumption | omega))
  k_with "exec Raise some none" => (exfalso; first | contradiction | omega)
  k_with "END" => (first   | (refine' ret_int ?zqh ?zqe ?zqF ?zqN ?zqsub; (case zqh => assumption); (case zqF => k_asm); (case zqN => k_asm); (case zqsub => k_slotset); (case zqe => k_put))   | (refine' ret_bool ?zqh ?zqe ?zqF ?zqN ?zqsub; (case zqh => assumption); (case zqF => k_asm); (case zqN => k_asm); (case zqsub => k_slotset); (case zqe => k_put))   | (refine' ret_pair ?zqh ?zqhm ?zqex ?zqey ?zqF ?zqN ?zqsub; (case zqh => assumption); (case zqF => k_asm); (case zqN => k_asm); (case zqsub => k_slotset); (case zqhm => k_slotget); (case zqex => k_put); (case zqey => k_put))   | (refine' ret_turn ?zqh ?zqhb ?zqhc ?zqhd ?zqe0 ?zqe1 ?zqe2 ?zqe3 ?zqF ?zqN ?zqsub; (case zqh => assumption); (case zqF => k_asm); (case zqN => k_asm); (case zqsub => k_slotset); (case zqhb => k_slotget); (case zqhc => k_slotget); (case zqhd => k_slotget); (case zqe0 => k_put); (case zqe1 => k_put); (case zqe2 => k_put); (case zqe3 => k_put)))
  k_with "exec While Compare cons nil" => (k_extra "MYWHILE")
  k_with "KswEnd" => (k_extra "MYTURN")
  k_with "x_auto" => (first | with_reducible assumption | omega | k_extra "FACT" | fail "fact")
  k_with "ite" => (first   | (with_reducible refine' ine_t ?zqh ?_; (case zqh => x_auto))   | (with_reducible refine' ine_f ?zqh ?_; (case zqh => x_auto))   | (with_reducible refine' ieq_t ?zqh ?_; (case zqh => x_auto))   | (with_reducible refine' ieq_f ?zqh ?_; (case zqh => x_auto))   | (with_reducible refine' dec_t ?zqh ?_; (case zqh => x_auto))   | (with_reducible refine' dec_f ?zqh ?_; (case zqh => x_auto)))
  k_with "eval BinOp" => (k_here; k_dflt (refine' IV.use ?zqd ?_; (case zqd => tb_rel); k_whole); intro t' tk')
  k_with "eval Tuple" => (k_here; k_dflt (refine' tup2 ?zqda ?zqdb ?zqF ?zqN ?_; (case zqda => tb_rel); (case zqdb => tb_rel); (case zqF => k_asm); (case zqN => k_asm); k_whole); intro D' t' u' h' tk' F' N' l1; (try k_lt l1); (try k_sweep))
  k_with "eval UnaryOp" => (k_here; k_dflt (refine' IV.use ?zqd ?_; (case zqd => tb_rel); k_whole); intro t' tk')
  k_with "eval Subscript" => (k_here; k_dflt (refine' IV.use ?zqd ?_; (case zqd => tb_rel); k_whole); intro t' tk')
  k_with "exec If" => (k_here; k_dflt (first | (refine' if_f ?zqd ?_; (case zqd => tb_rel); k_whole) | (refine' if_t ?zqd ?_; (case zqd => tb_rel); k_whole)); intro tk')
  k_with "OFFA" => (first | (refine' OffA.lt ?_; assumption) | (refine' OffA.cons ?zqc ?zqd; (case zqc => first | exact Or.inr (by k_cls) | exact Or.inl (by k_ne)); (case zqd => walk_at "OFFA")))
  k_with "WO" => (first | (refine' WO.here ?_; walk_at "OFFA") | (refine' WO.cons ?zqc ?zqd; (case zqc => first | exact Or.inr (by k_cls) | exact Or.inl (by k_ne)); (case zqd => walk_at "WO")))
  k_with "UnrEnd" => (refine' unr_end ?zqF ?zqN ?zqW ?_; (case zqF => k_asm); (case zqN => k_asm); (case zqW => walk_at "WO"))
  k_with "ENTER" => (refine' code_def ?zqk1 ?zqk2 ?zqk3 ?zqk4 ?zqk5 ?zqkA ?zqkF ?zqkK ?zqk6 ?zqk7 ?zqk8 ?zqk9 ?zqkB ?_ ?zqc2 ?zqc3 ?zqc4 ?zqc5; (case zqkA => exact rfl); (case zqkF => exact rfl); (case zqkK => assumption); (case zqk1 => k_asm); (case zqk2 => k_asm); (case zqk3 => k_asm); (case zqk4 => k_asm); (case zqk5 => k_asm); (case zqk6 => k_is); (case zqk7 => k_is); (case zqk8 => ktr_room); (case zqk9 => first | exact BindsTo.of_eq rfl | exact binds_K (by k_in) rfl (by k_is) rfl rfl rfl); (case zqc5 => decide); (case zqkB => exact locs rfl); (case zqc2 => exact rfl); (case zqc3 => exact rfl); (case zqc4 => exact rfl); k_whole; intro g' L' h' FG' F' N' B' X' T'; (try dsimp only); (try k_fold))
  k_with "call ref" => (k_here; k_dflt (refine' use_turn (cut_turn ?zqp0 ?zqp1 ?zqp2 ?zqp3 ?zqp4 ?zqp5 ?zqp6) ?zqk1 ?zqk2 ?zqk3 ?zqk4 ?zqk5 ?zqkK ?zqkd ?zqku ?_; (case zqk1 => k_asm); (case zqk2 => k_asm); (case zqk3 => k_asm); (case zqk4 => k_asm); (case zqk5 => k_asm); (case zqkK => first | exact rfl | assumption); (case zqp0 => k_get); (case zqp1 => k_get); (case zqp2 => k_get); (case zqp3 => k_get); (case zqp4 => k_get); (case zqp5 => k_get); (case zqp6 => k_get); (case zqkd => ktr_room); (case zqku => ktr_units); k_whole; intro a' c' d' t' u' v' z' h' tk' F' N'; (try k_sweep); (try dsimp only); (try k_fold)))
  k_with "call ref" => (k_here; k_dflt (refine' use_bool (cut_is_near ?zqp0 ?zqp1 ?zqp2 ?zqp3 ?zqp4 ?zqp5 ?zqp6 ?zqp7 ?zqp8) ?zqk1 ?zqk2 ?zqk3 ?zqk4 ?zqk5 ?zqkK ?zqkd ?zqku ?_; (case zqk1 => k_asm); (case zqk2 => k_asm); (case zqk3 => k_asm); (case zqk4 => k_asm); (case zqk5 => k_asm); (case zqkK => first | exact rfl | assumption); (case zqp0 => k_get); (case zqp1 => k_get); (case zqp2 => k_get); (case zqp3 => k_get); (case zqp4 => k_get); (case zqp5 => k_get); (case zqp6 => k_get); (case zqp7 => k_get); (case zqp8 => k_get); (case zqkd => ktr_room); (case zqku => ktr_units); k_whole; intro h' tk' F' N'; (try k_sweep); (try dsimp only); (try k_fold)))
  k_with "call ref" => (k_here; k_dflt (refine' use_pair (cut_fractionE ?zqp0 ?zqp1 ?zqp2 ?zqp3) ?zqk1 ?zqk2 ?zqk3 ?zqk4 ?zqk5 ?zqkK ?zqkd ?zqku ?_; (case zqk1 => k_asm); (case zqk2 => k_asm); (case zqk3 => k_asm); (case zqk4 => k_asm); (case zqk5 => k_asm); (case zqkK => first | exact rfl | assumption); (case zqp0 => k_get); (case zqp1 => k_get); (case zqp2 => k_get); (case zqp3 => k_get); (case zqkd => ktr_room); (case zqku => ktr_units); k_whole; intro a' t' u' h' tk' F' N'; (try k_sweep); (try dsimp only); (try k_fold)))
  k_with "call ref" => (k_here; k_dflt (refine' use_pair (cut_tangent ?zqp0 ?zqp1 ?zqp2 ?zqp3 ?zqp4 ?zqp5 ?zqp6 ?zqp7 ?zqp8 ?zqp9 ?zqp10 ?zqp11 ?zqp12 ?zqp13 ?zqp14 ?zqp15 ?zqp16 ?zqp17 ?zqp18 ?zqp19) ?zqk1 ?zqk2 ?zqk3 ?zqk4 ?zqk5 ?zqkK ?zqkd ?zqku ?_; (case zqk1 => k_asm); (case zqk2 => k_asm); (case zqk3 => k_asm); (case zqk4 => k_asm); (case zqk5 => k_asm); (case zqkK => first | exact rfl | assumption); (case zqp0 => k_get); (case zqp1 => k_get); (case zqp2 => k_get); (case zqp3 => k_get); (case zqp4 => k_get); (case zqp5 => k_get); (case zqp6 => k_get); (case zqp7 => k_get); (case zqp8 => k_get); (case zqp9 => k_get); (case zqp10 => k_get); (case zqp11 => k_get); (case zqp12 => k_get); (case zqp13 => k_get); (case zqp14 => k_get); (case zqp15 => k_get); (case zqp16 => k_get); (case zqp17 => k_get); (case zqp18 => k_get); (case zqp19 => k_get); (case zqkd => ktr_room); (case zqku => ktr_units); k_whole; intro a' t' u' h' tk' F' N'; (try k_sweep); (try dsimp only); (try k_fold)))
  intro mean mg mb dp un gd cn cs c ccd cl outer A₀ base h₀ L m s Q E B F X N T hk hd hu hret
  have hb4 : (0 : Int) < 4096 := by decide
  walk_at "WALK"
end
section
/-- the contract of a def that the law's own frame calls -/
def CutT (w : World) (f : Addr) (k : Nat) (news : List (Addr × Obj)) (vs : List Value) (Out : Value → List (Addr × Obj) → Prop) : Prop :=
  ∀ (mean : ExcName → Option Value) (mg mb : PySem.Str → Option Value) (dp un : Nat) (gd : Option (List Code)) (cn : PySem.Str) (cs : Scope) (a : Addr) (ccd : Value) (A₀ : Around) (h₀ : Heap) (L : Addr) (m : PySem.Str → Option Value) (s : Shared) (Q E : Value → Shared → Prop),
    Below A₀ h₀ [] h₀ → Fr h₀ L s.heap m → (hd.heap_39 w.params).In h₀ → News h₀ L s.heap news → Top hd.view_39 LS mean mg mb h₀ → cs.kind = .function → dp + k < recursionLimit → un + 8 * k < cLine →
    (∀ r tl h' tk', Fr h₀ L h' m → News h₀ L h' (tl ++ news) → Out r tl → Q r { s with heap := h', toks := tk' }) →
    wpAny (model PySem.Challenge.rw_nu0010_01.row.prog w) (ktrTop dp un gd cn cs L a ccd [] []) (call (.ref f) vs) Q E s
theorem Cut.toT {w : World} {f : Addr} {k : Nat} {news : List (Addr × Obj)} {vs : List Value} {Out : Value → List (Addr × Obj) → Prop} (C : Cut w f k news vs Out) : CutT w f k news vs Out :=
  fun _ _ _ _ _ _ _ _ _ _ _ _ _ _ _ _ _ B F X N T hk hd hu hret => C _ _ _ _ _ _ _ _ _ _ _ _ _ _ _ _ _ _ _ _ B F X N T hk hd hu hret
section
variable {w : World} {f : Addr} {k : Nat} {news : List (Addr × Obj)} {vs : List Value} {mean : ExcName → Option Value} {mg mb : PySem.Str → Option Value} {dp un : Nat} {gd : Option (List Code)} {cn : PySem.Str} {cs : Scope} {a : Addr} {ccd : Value} {cl : List (PySem.Str × Addr)} {outer : List Env} {A₀ : Around} {base h₀ h : Heap} {L : Addr} {m : PySem.Str → Option Value} {s : Shared} {Q E : Value → Shared → Prop}
theorem use_fault (C : CutE w f k news vs) (B : Below A₀ base outer h₀) (F : Fr h₀ L s.heap m) (X : (hd.heap_39 w.params).In h₀) (N : News h₀ L s.heap news) (T : Top hd.view_39 LS mean mg mb h₀) (hk : cs.kind = .function) (hdp : dp + k < recursionLimit) (hun : un + 8 * k < cLine)
    (h : ∀ e G h' tk', Fr h₀ L G m → RaisedSN base G (envX cn cs L a ccd cl :: outer) e (.ref 44) news h' → G.UpToSlots h' → E (.ref e) { s with heap := h', toks := tk' }) :
    wpAny (model PySem.Challenge.rw_nu0010_01.row.prog w) (ktrTop dp un gd cn cs L a ccd cl outer) (call (.ref f) vs) Q E s :=
  C _ _ _ _ _ _ _ _ _ _ _ _ _ _ _ _ _ _ _ _ B F X N T hk hdp hun h
end
set_option maxHeartbeats 4000000 in
theorem cutT_tan_0 {w : World} {news : List (Addr × Obj)} {pa : Addr} {a0 a1 : Int} {ta ua : Tok} (ha : (pa, pairObj (.int a0 ta) (.int a1 ua)) ∈ news) {c0 c1 s0 s1 : Int} (H : toR a0 a1 (4096 * 65536) = some (c0, c1, s0, s1)) (hc : c0 = 0) (hd : 0 < a1) (z1 : Bt 60 a0) (z2 : Bt 60 a1) (hm : a0.fmod (180 * a1) = 90 * a1) : CutT w 281 10 news [.ref pa] (OBool true) := by
  w_top off
  unfold CutT
  k_fill
  k_with_none
  k_with "ktr_room" => (first | exact dp_le (by with_reducible assumption) (by decide) | exact dp_le0 (by with_reducible assumption) (by decide) | exact Nat.lt_of_le_of_lt (Nat.le_add_right _ _) (by with_reducible assumption) | fail "room")
  k_with "ktr_units" => (first | exact un_le (by with_reducible assumption) (by decide) | exact un_le0 (by with_reducible assumption) (by decide) | exact Nat.lt_of_le_of_lt (Nat.le_add_right _ _) (by with_reducible assumption) | fail "units")
  k_with "k_slotset" => (intro p hp; repeat (first | exact hp | refine List.mem_cons_of_mem _ ?_))
  k_with "k_put" => (first | with_reducible rfl | omega | assumption | (simp only [Int.mul_one, Int.one_mul]; done) | (simp only [signV]; (repeat' split) <;> first | with_reducible rfl | omega) | k_extra "EQ")
  k_with "bits_by_make" => (first | with_reducible assumption | ((with_reducible apply bits_fracT); bits_by_make) | ((with_reducible apply bits_fracB); bits_by_make) | exact PySem.intBits_le_64 (by decide) (by decide) | exact PySem.intBits_le_64 (by omega) (by omega) | exact bits_lit200 (by decide +kernel) | fail "bits")
  k_with "k_slotget" => (first | exact List.mem_cons_self | with_reducible assumption | (refine' List.mem_cons_of_mem _ ?_; k_slotget) | fail "mem")
  k_with "subscriptTail Name Constant ref int" => (k_here; k_dflt (refine' item_tupleT (News.isTup ?zqn ?zqm) ?zqa ?zqb ?zqc ?zqd ?_; (case zqn => k_asm); (case zqm => k_slotget); (case zqa => decide); (case zqb => decide); (case zqc => exact rfl); (case zqd => exact rfl); k_whole))
  k_with "execs cons" => (with_reducible refine gen_toks3 (fun tk' => ?_))
  k_with "execs nil" => (with_reducible refine gen_toks3 (fun tk' => ?_))
  k_with "eval Name" => (k_here; k_dflt (first   | (refine' ld ?zqk1 ?zqk2 ?_; (case zqk1 => k_asm); (case zqk2 => exact rfl); k_whole)   | (refine' name_K ?zqkF ?zqk1 ?zqk2 ?zqk3 ?_; (case zqkF => k_asm); (case zqk1 => k_asm); (case zqk2 => k_asm); (case zqk3 => k_is); k_whole)))
  k_with "k_get" => (first | with_reducible assumption | k_slotget | exact Nat.le_trans (by with_reducible assumption) (by decide) | k_extra "P" | decide | omega | (refine intBits_le_64 ?_ ?_ <;> omega) | (exact Nat.le_trans (by bits_by_make) (by decide)) | assumption)
  k_with "ktd_handed" => (first | with_reducible assumption | decide | omega | k_extra "NZ")
  k_with "binaryOp FloorDiv int int" => (k_here; (with_reducible refine floordiv_int ?zqkbe ?_ (Or.inl (PyProof.noPylong_of_log2 ?zqkbp))); (case zqkbe => ktd_handed); (case zqkbp => exact log_of_bits (by bits_by_make) (by decide)))
  k_with "binaryOp Mod int int" => (k_here; (with_reducible refine mod_int' ?zqkbe ?_); (case zqkbe => ktd_handed))
  k_with "binaryOp Mod int int" => (with_reducible refine' mod_int_v ?zqhb ?zqe ?_; (case zqe => with_reducible assumption); (case zqhb => ktd_handed))
  k_with "binaryOp Mod int int" => (k_extra "MYMOD")
  k_with "binaryOp Mult int int" => (k_here; k_dflt (refine' PyProof.Rows.mul_int ?_ ?zqhm; (case zqhm => exact PyProof.Rows.mulOk_of_bits (by bits_by_make) (by bits_by_make) (by decide))))
  k_with "binaryOp Pow int int" => (with_reducible refine' pow2_int ?zqh ?_; (case zqh => first | with_reducible assumption | omega))
  k_with "exec Raise some none" => (exfalso; first | contradiction | omega)
  k_with "END" => (first   | (refine' ret_int ?zqh ?zqe ?zqF ?zqN ?zqsub; (case zqh => assumption); (case zqF => k_asm); (case zqN => k_asm); (case zqsub => k_slotset); (case zqe => k_put))   | (refine' ret_bool ?zqh ?zqe ?zqF ?zqN ?zqsub; (case zqh => assumption); (case zqF => k_asm); (case zqN => k_asm); (case zqsub => k_slotset); (case zqe => k_put))   | (refine' ret_pair ?zqh ?zqhm ?zqex ?zqey ?zqF ?zqN ?zqsub; (case zqh => assumption); (case zqF => k_asm); (case zqN => k_asm); (case zqsub => k_slotset); (case zqhm => k_slotget); (case zqex => k_put); (case zqey => k_put))   | (refine' ret_turn ?zqh ?zqhb ?zqhc ?zqhd ?zqe0 ?zqe1 ?zqe2 ?zqe3 ?zqF ?zqN ?zqsub; (case zqh => assumption); (case zqF => k_asm); (case zqN => k_asm); (case zqsub => k_slotset); (case zqhb => k_slotget); (case zqhc => k_slotget); (case zqhd => k_slotget); (case zqe0 => k_put); (case zqe1 => k_put); (case zqe2 => k_put); (case zqe3 => k_put)))
  k_with "exec While Compare cons nil" => (k_extra "MYWHILE")
  k_with "KswEnd" => (k_extra "MYTURN")
  k_with "x_auto" => (first | with_reducible assumption | omega | k_extra "FACT" | fail "fact")
  k_with "ite" => (first   | (with_reducible refine' ine_t ?zqh ?_; (case zqh => x_auto))   | (with_reducible refine' ine_f ?zqh ?_; (case zqh => x_auto))   | (with_reducible refine' ieq_t ?zqh ?_; (case zqh => x_auto))   | (with_reducible refine' ieq_f ?zqh ?_; (case zqh => x_auto))   | (with_reducible refine' dec_t ?zqh ?_; (case zqh => x_auto))   | (with_reducible refine' dec_f ?zqh ?_; (case zqh => x_auto)))
  k_with "eval BinOp" => (k_here; k_dflt (refine' IV.use ?zqd ?_; (case zqd => tb_rel); k_whole); intro t' tk')
  k_with "eval Tuple" => (k_here; k_dflt (refine' tup2 ?zqda ?zqdb ?zqF ?zqN ?_; (case zqda => tb_rel); (case zqdb => tb_rel); (case zqF => k_asm); (case zqN => k_asm); k_whole); intro D' t' u' h' tk' F' N' l1; (try k_lt l1); (try k_sweep))
  k_with "eval UnaryOp" => (k_here; k_dflt (refine' IV.use ?zqd ?_; (case zqd => tb_rel); k_whole); intro t' tk')
  k_with "eval Subscript" => (k_here; k_dflt (refine' IV.use ?zqd ?_; (case zqd => tb_rel); k_whole); intro t' tk')
  k_with "exec If" => (k_here; k_dflt (first | (refine' if_f ?zqd ?_; (case zqd => tb_rel); k_whole) | (refine' if_t ?zqd ?_; (case zqd => tb_rel); k_whole)); intro tk')
  k_with "OFFA" => (first | (refine' OffA.lt ?_; assumption) | (refine' OffA.cons ?zqc ?zqd; (case zqc => first | exact Or.inr (by k_cls) | exact Or.inl (by k_ne)); (case zqd => walk_at "OFFA")))
  k_with "WO" => (first | (refine' WO.here ?_; walk_at "OFFA") | (refine' WO.cons ?zqc ?zqd; (case zqc => first | exact Or.inr (by k_cls) | exact Or.inl (by k_ne)); (case zqd => walk_at "WO")))
  k_with "UnrEnd" => (refine' unr_end ?zqF ?zqN ?zqW ?_; (case zqF => k_asm); (case zqN => k_asm); (case zqW => walk_at "WO"))
  k_with "ENTER" => (refine' code_def ?zqk1 ?zqk2 ?zqk3 ?zqk4 ?zqk5 ?zqkA ?zqkF ?zqkK ?zqk6 ?zqk7 ?zqk8 ?zqk9 ?zqkB ?_ ?zqc2 ?zqc3 ?zqc4 ?zqc5; (case zqkA => exact rfl); (case zqkF => exact rfl); (case zqkK => assumption); (case zqk1 => k_asm); (case zqk2 => k_asm); (case zqk3 => k_asm); (case zqk4 => k_asm); (case zqk5 => k_asm); (case zqk6 => k_is); (case zqk7 => k_is); (case zqk8 => ktr_room); (case zqk9 => first | exact BindsTo.of_eq rfl | exact binds_K (by k_in) rfl (by k_is) rfl rfl rfl); (case zqc5 => decide); (case zqkB => exact locs rfl); (case zqc2 => exact rfl); (case zqc3 => exact rfl); (case zqc4 => exact rfl); k_whole; intro g' L' h' FG' F' N' B' X' T'; (try dsimp only); (try k_fold))
  k_with "ENTERT" => (refine' code_defS0 ?zqk1 ?zqk2 ?zqk3 ?zqk4 ?zqk5 ?zqkA ?zqk6 ?zqk7 ?zqk8 ?zqk9 ?zqkB ?_ ?zqcK ?zqc2 ?zqc3 ?zqc4 ?zqc5; (case zqkA => exact rfl); (case zqk2 => k_asm); (case zqk1 => k_asm); (case zqk3 => k_asm); (case zqk4 => k_asm); (case zqk5 => k_asm); (case zqk6 => k_is); (case zqk7 => k_is); (case zqk8 => ktr_room); (case zqk9 => first | exact BindsTo.of_eq rfl | exact binds_K (by k_in) rfl (by k_is) rfl rfl rfl); (case zqkB => exact locs rfl); (case zqcK => assumption); (case zqc2 => exact rfl); (case zqc3 => exact rfl); (case zqc4 => exact rfl); (case zqc5 => decide); k_whole; intro g' L' h' FG' F' N' B' X' T' D'; (try dsimp only); (try k_fold))
  k_with "noteFrame ref" => (k_here; k_dflt (refine' caught_fault ?zqR ?zqF ?zqK ?zqU ?zqXB ?zqTB ?zqD ?zqT0 ?zqex ?zqq ?_ ?zqc1 ?zqc2 ?zqc3 ?zqc4; (case zqR => assumption); (case zqF => assumption); (case zqK => assumption); (case zqU => assumption); (case zqXB => exact X); (case zqTB => exact T); (case zqD => assumption); (case zqT0 => exact KtsTurn.refl); (case zqex => k_is); (case zqq => kts_isx); (case zqc1 => exact rfl); (case zqc2 => exact rfl); (case zqc3 => decide); (case zqc4 => passes_own); k_whole); intro h' g' T' F' N' K' X' P' D'; (try k_sweep))
  k_with "call ref" => (k_here; k_dflt (refine' use_fault (cutE_tangent ?zqp0 ?zqp1 ?zqp2 ?zqp3 ?zqp4 ?zqp5 ?zqp6 ?zqp7) ?zqk1 ?zqk2 ?zqk3 ?zqk4 ?zqk5 ?zqkK ?zqkd ?zqku ?_; (case zqk1 => k_asm); (case zqk2 => k_asm); (case zqk3 => k_asm); (case zqk4 => k_asm); (case zqk5 => k_asm); (case zqkK => first | exact rfl | assumption); (case zqp0 => k_get); (case zqp1 => k_get); (case zqp2 => k_get); (case zqp3 => k_get); (case zqp4 => k_get); (case zqp5 => k_get); (case zqp6 => k_get); (case zqp7 => k_get); (case zqkd => ktr_room); (case zqku => ktr_units); k_whole; intro e' G' h' tk' F' R' U'; (try k_sweep); (try dsimp only); (try k_fold)))
  intro mean mg mb dp un gd cn cs c ccd A₀ h₀ L m s Q E B F X N T hk hd hu hret
  have hb4 : (0 : Int) < 4096 := by decide
  k_with "EQ" => first | exact beq_self_eq_true _ | exact beq_iff_eq.mpr rfl
  refine wpAny_call ?_
  k_dflt walk_at "ENTERT"
  walk_at "STEPS"
  all_goals walk_at "END"
end
section
def dgF (y0 f0 f1 : Int) : Int × Int := if y0 < 0 ∧ f0 ≠ 0 then (fracT (360 * f1 - f0 * 1) (1 * f1), fracB (360 * f1 - f0 * 1) (1 * f1)) else (f0, f1)
def dgU (y0 t2 : Int) : Option (Int × Int) :=
  if (fracT (rdV t2 (65536 * 65536) 65536) 65536).natAbs < 2 ^ 1000 then some (dgF y0 (fracT (rdV t2 (65536 * 65536) 65536) 65536) (fracB (rdV t2 (65536 * 65536) 65536) 65536)) else none
def dgT (x0 y0 tl : Int) : Option (Int × Int) := if x0 < 0 then dgU y0 (180 * (65536 * 65536) - tl) else dgU y0 tl
def dgR (x0 x1 y0 y1 : Int) : Option (Int × Int) :=
  if ((x0.natAbs : Nat) : Int) * y1 = 0 ∧ ((y0.natAbs : Nat) : Int) * x1 = 0 then none
  else if ((y0.natAbs : Nat) : Int) * x1 ≤ ((x0.natAbs : Nat) : Int) * y1 then (match slR (((y0.natAbs : Nat) : Int) * x1) (((x0.natAbs : Nat) : Int) * y1) (65536 * 65536) with
    | none => none
    | some r => if r.natAbs < 2 ^ 900 then dgT x0 y0 r else none)
  else (match slR (((x0.natAbs : Nat) : Int) * y1) (((y0.natAbs : Nat) : Int) * x1) (65536 * 65536) with
    | none => none
    | some r => if r.natAbs < 2 ^ 900 then dgT x0 y0 (90 * (65536 * 65536) - r) else none)
theorem dgU_inv {y0 t2 g0 g1 : Int} (h : dgU y0 t2 = some (g0, g1)) : ∃ f0 f1, fracT (rdV t2 (65536 * 65536) 65536) 65536 = f0 ∧ fracB (rdV t2 (65536 * 65536) 65536) 65536 = f1 ∧ Bt 1000 f0 ∧
    (y0 < 0 → f0 ≠ 0 → fracT (360 * f1 - f0 * 1) (1 * f1) = g0 ∧ fracB (360 * f1 - f0 * 1) (1 * f1) = g1) ∧ (¬ y0 < 0 → f0 = g0 ∧ f1 = g1) ∧ (f0 = 0 → f0 = g0 ∧ f1 = g1) := by
  unfold dgU at h
  split at h
  · rename_i hb
    have h := Option.some.inj h
    refine ⟨_, _, rfl, rfl, bits_of_lt hb, ?_⟩
    generalize fracT (rdV t2 (65536 * 65536) 65536) 65536 = f0 at *
    generalize fracB (rdV t2 (65536 * 65536) 65536) 65536 = f1 at *
    unfold dgF at h
    refine ⟨fun a b => ?_, fun a => ?_, fun a => ?_⟩
    · rw [if_pos ⟨a, b⟩] at h; injection h with h1 h2; exact ⟨h1, h2⟩
    · rw [if_neg (fun c => a c.1)] at h; injection h with h1 h2; exact ⟨h1, h2⟩
    · rw [if_neg (fun c => c.2 a)] at h; injection h with h1 h2; exact ⟨h1, h2⟩
  · cases h
theorem cut_dg {w : World} {news : List (Addr × Obj)} {px : Addr} {x0 x1 : Int} {tx ux : Tok} (hx : (px, pairObj (.int x0 tx) (.int x1 ux)) ∈ news) {py : Addr} {y0 y1 : Int} {ty uy : Tok} (hy : (py, pairObj (.int y0 ty) (.int y1 uy)) ∈ news) {g0 g1 : Int}
    (H : dgR x0 x1 y0 y1 = some (g0, g1)) (hx1 : 0 < x1) (hy1 : 0 < y1) (z1 : Bt 40 x0) (z2 : Bt 40 x1) (z3 : Bt 40 y0) (z4 : Bt 40 y1) : Cut w 199 4 news [.ref px, .ref py] (OPair g0 g1) := by
  have hwd : 0 ≤ ((x0.natAbs : Nat) : Int) * y1 := Int.mul_nonneg (by omega) (by omega)
  have hhi : 0 ≤ ((y0.natAbs : Nat) : Int) * x1 := Int.mul_nonneg (by omega) (by omega)
  unfold dgR at H
  split at H
  · cases H
  rename_i hnz
  split at H
  · rename_i hA
    split at H
    · cases H
    rename_i r hr
    split at H
    · rename_i hb
      unfold dgT at H
      split at H
      · rename_i hB
        obtain ⟨f0, f1, e1, e2, zf, hC1, hC2, hC3⟩ := dgU_inv H
        exact cut_deg hx hy (.inl ⟨hA, ⟨hr⟩, rfl⟩) (.inl ⟨hB, rfl⟩) hnz e1 e2 hC1 hC2 hC3 hwd hhi hx1 hy1 z1 z2 z3 z4 (bits_of_lt hb) zf
      · rename_i hB
        obtain ⟨f0, f1, e1, e2, zf, hC1, hC2, hC3⟩ := dgU_inv H
        exact cut_deg hx hy (.inl ⟨hA, ⟨hr⟩, rfl⟩) (.inr ⟨hB, rfl⟩) hnz e1 e2 hC1 hC2 hC3 hwd hhi hx1 hy1 z1 z2 z3 z4 (bits_of_lt hb) zf
    · cases H
  · rename_i hA
    split at H
    · cases H
    rename_i r hr
    split at H
    · rename_i hb
      unfold dgT at H
      split at H
      · rename_i hB
        obtain ⟨f0, f1, e1, e2, zf, hC1, hC2, hC3⟩ := dgU_inv H
        exact cut_deg hx hy (.inr ⟨hA, ⟨hr⟩, rfl⟩) (.inl ⟨hB, rfl⟩) hnz e1 e2 hC1 hC2 hC3 hwd hhi hx1 hy1 z1 z2 z3 z4 (bits_of_lt hb) zf
      · rename_i hB
        obtain ⟨f0, f1, e1, e2, zf, hC1, hC2, hC3⟩ := dgU_inv H
        exact cut_deg hx hy (.inr ⟨hA, ⟨hr⟩, rfl⟩) (.inr ⟨hB, rfl⟩) hnz e1 e2 hC1 hC2 hC3 hwd hhi hx1 hy1 z1 z2 z3 z4 (bits_of_lt hb) zf
    · cases H
/-- a contract whose made objects are new -/
def CutN (w : World) (f : Addr) (k : Nat) (news : List (Addr × Obj)) (vs : List Value) (Out : Value → List (Addr × Obj) → Prop) : Prop :=
  ∀ (mean : ExcName → Option Value) (mg mb : PySem.Str → Option Value) (dp un : Nat) (gd : Option (List Code)) (cn : PySem.Str) (cs : Scope) (a : Addr) (ccd : Value) (cl : List (PySem.Str × Addr)) (outer : List Env) (A₀ : Around) (base h₀ : Heap) (L : Addr) (m : PySem.Str → Option Value) (s : Shared) (Q E : Value → Shared → Prop),
    Below A₀ base outer h₀ → Fr h₀ L s.heap m → (hd.heap_39 w.params).In h₀ → News h₀ L s.heap news → Top hd.view_39 LS mean mg mb h₀ → cs.kind = .function → dp + k < recursionLimit → un + 8 * k < cLine →
    (∀ r tl h' tk', Fr h₀ L h' m → News h₀ L h' (tl ++ news) → Out r tl → (∀ p ∈ tl, ∀ q ∈ news, q.1 < p.1) → Q r { s with heap := h', toks := tk' }) →
    wpAny (model PySem.Challenge.rw_nu0010_01.row.prog w) (ktrTop dp un gd cn cs L a ccd cl outer) (call (.ref f) vs) Q E s
section
variable {w : World} {f : Addr} {k : Nat} {news : List (Addr × Obj)} {vs : List Value} {mean : ExcName → Option Value} {mg mb : PySem.Str → Option Value} {dp un : Nat} {gd : Option (List Code)} {cn : PySem.Str} {cs : Scope} {a : Addr} {ccd : Value} {cl : List (PySem.Str × Addr)} {outer : List Env} {A₀ : Around} {base h₀ h : Heap} {L : Addr} {m : PySem.Str → Option Value} {s : Shared} {Q E : Value → Shared → Prop}
theorem retN_pair {x y x' y' : Int} {t u : Tok} {h' : Heap} {tk' : Nat} {b : Addr} (hret : ∀ r tl h' tk', Fr h₀ L h' m → News h₀ L h' (tl ++ news) → OPair x y r tl → (∀ p ∈ tl, ∀ q ∈ news, q.1 < p.1) → Q r { s with heap := h', toks := tk' })
    (ex : x' = x) (ey : y' = y) (F : Fr h₀ L h' m) (N : News h₀ L h' ((b, pairObj (.int x' t) (.int y' u)) :: news)) (l : ∀ q ∈ news, q.1 < b) : Q (.ref b) { s with heap := h', toks := tk' } := by
  subst ex; subst ey
  exact hret _ [(b, pairObj (.int x' t) (.int y' u))] _ _ F N ⟨b, t, u, rfl, rfl⟩ (fun p hp q hq => by rw [List.mem_singleton.mp hp]; exact l q hq)
end
set_option maxHeartbeats 4000000 in
theorem cutN_fraction {w : World} {news : List (Addr × Obj)} {a b : Int} {t u : Tok} (hbp : 0 < b) (sb : Bt 4000 b) : CutN w 61 2 news [.int a t, .int b u] (OPair (fracT a b) (fracB a b)) := by
  w_top off
  unfold CutN
  k_fill
  k_with_none
  k_with "ktr_room" => (first | exact dp_le (by with_reducible assumption) (by decide) | exact dp_le0 (by with_reducible assumption) (by decide) | exact Nat.lt_of_le_of_lt (Nat.le_add_right _ _) (by with_reducible assumption) | fail "room")
  k_with "ktr_units" => (first | exact un_le (by with_reducible assumption) (by decide) | exact un_le0 (by with_reducible assumption) (by decide) | exact Nat.lt_of_le_of_lt (Nat.le_add_right _ _) (by with_reducible assumption) | fail "units")
  k_with "k_slotset" => (intro p hp; repeat (first | exact hp | refine List.mem_cons_of_mem _ ?_))
  k_with "k_put" => (first | with_reducible rfl | omega | assumption | (simp only [Int.mul_one, Int.one_mul]; done) | (simp only [signV]; (repeat' split) <;> first | with_reducible rfl | omega) | k_extra "EQ")
  k_with "bits_by_make" => (first | with_reducible assumption | ((with_reducible apply bits_fracT); bits_by_make) | ((with_reducible apply bits_fracB); bits_by_make) | exact PySem.intBits_le_64 (by decide) (by decide) | exact PySem.intBits_le_64 (by omega) (by omega) | exact bits_lit200 (by decide +kernel) | fail "bits")
  k_with "k_slotget" => (first | exact List.mem_cons_self | with_reducible assumption | (refine' List.mem_cons_of_mem _ ?_; k_slotget) | fail "mem")
  k_with "subscriptTail Name Constant ref int" => (k_here; k_dflt (refine' item_tupleT (News.isTup ?zqn ?zqm) ?zqa ?zqb ?zqc ?zqd ?_; (case zqn => k_asm); (case zqm => k_slotget); (case zqa => decide); (case zqb => decide); (case zqc => exact rfl); (case zqd => exact rfl); k_whole))
  k_with "execs cons" => (with_reducible refine gen_toks3 (fun tk' => ?_))
  k_with "execs nil" => (with_reducible refine gen_toks3 (fun tk' => ?_))
  k_with "eval Name" => (k_here; k_dflt (first   | (refine' ld ?zqk1 ?zqk2 ?_; (case zqk1 => k_asm); (case zqk2 => exact rfl); k_whole)   | (refine' name_K ?zqkF ?zqk1 ?zqk2 ?zqk3 ?_; (case zqkF => k_asm); (case zqk1 => k_asm); (case zqk2 => k_asm); (case zqk3 => k_is); k_whole)))
  k_with "k_get" => (first | with_reducible assumption | k_slotget | exact Nat.le_trans (by with_reducible assumption) (by decide) | k_extra "P" | decide | omega | (refine intBits_le_64 ?_ ?_ <;> omega) | (exact Nat.le_trans (by bits_by_make) (by decide)) | assumption)
  k_with "ktd_handed" => (first | with_reducible assumption | decide | omega | k_extra "NZ")
  k_with "binaryOp FloorDiv int int" => (k_here; (with_reducible refine floordiv_int ?zqkbe ?_ (Or.inl (PyProof.noPylong_of_log2 ?zqkbp))); (case zqkbe => ktd_handed); (case zqkbp => exact log_of_bits (by bits_by_make) (by decide)))
  k_with "binaryOp Mod int int" => (k_here; (with_reducible refine mod_int' ?zqkbe ?_); (case zqkbe => ktd_handed))
  k_with "binaryOp Mod int int" => (with_reducible refine' mod_int_v ?zqhb ?zqe ?_; (case zqe => with_reducible assumption); (case zqhb => ktd_handed))
  k_with "binaryOp Mod int int" => (k_extra "MYMOD")
  k_with "binaryOp Mult int int" => (k_here; k_dflt (refine' PyProof.Rows.mul_int ?_ ?zqhm; (case zqhm => exact PyProof.Rows.mulOk_of_bits (by bits_by_make) (by bits_by_make) (by decide))))
  k_with "binaryOp Pow int int" => (with_reducible refine' pow2_int ?zqh ?_; (case zqh => first | with_reducible assumption | omega))
  k_with "exec Raise some none" => (exfalso; first | contradiction | omega)
  k_with "END" => (first   | (refine' ret_int ?zqh ?zqe ?zqF ?zqN ?zqsub; (case zqh => assumption); (case zqF => k_asm); (case zqN => k_asm); (case zqsub => k_slotset); (case zqe => k_put))   | (refine' ret_bool ?zqh ?zqe ?zqF ?zqN ?zqsub; (case zqh => assumption); (case zqF => k_asm); (case zqN => k_asm); (case zqsub => k_slotset); (case zqe => k_put))   | (refine' ret_pair ?zqh ?zqhm ?zqex ?zqey ?zqF ?zqN ?zqsub; (case zqh => assumption); (case zqF => k_asm); (case zqN => k_asm); (case zqsub => k_slotset); (case zqhm => k_slotget); (case zqex => k_put); (case zqey => k_put))   | (refine' ret_turn ?zqh ?zqhb ?zqhc ?zqhd ?zqe0 ?zqe1 ?zqe2 ?zqe3 ?zqF ?zqN ?zqsub; (case zqh => assumption); (case zqF => k_asm); (case zqN => k_asm); (case zqsub => k_slotset); (case zqhb => k_slotget); (case zqhc => k_slotget); (case zqhd => k_slotget); (case zqe0 => k_put); (case zqe1 => k_put); (case zqe2 => k_put); (case zqe3 => k_put)))
  k_with "exec While Compare cons nil" => (k_extra "MYWHILE")
  k_with "KswEnd" => (k_extra "MYTURN")
  k_with "x_auto" => (first | with_reducible assumption | omega | k_extra "FACT" | fail "fact")
  k_with "ite" => (first   | (with_reducible refine' ine_t ?zqh ?_; (case zqh => x_auto))   | (with_reducible refine' ine_f ?zqh ?_; (case zqh => x_auto))   | (with_reducible refine' ieq_t ?zqh ?_; (case zqh => x_auto))   | (with_reducible refine' ieq_f ?zqh ?_; (case zqh => x_auto))   | (with_reducible refine' dec_t ?zqh ?_; (case zqh => x_auto))   | (with_reducible refine' dec_f ?zqh ?_; (case zqh => x_auto)))
  k_with "eval BinOp" => (k_here; k_dflt (refine' IV.use ?zqd ?_; (case zqd => tb_rel); k_whole); intro t' tk')
  k_with "eval Tuple" => (k_here; k_dflt (refine' tup2 ?zqda ?zqdb ?zqF ?zqN ?_; (case zqda => tb_rel); (case zqdb => tb_rel); (case zqF => k_asm); (case zqN => k_asm); k_whole); intro D' t' u' h' tk' F' N' l1; (try k_lt l1); (try k_sweep))
  k_with "eval UnaryOp" => (k_here; k_dflt (refine' IV.use ?zqd ?_; (case zqd => tb_rel); k_whole); intro t' tk')
  k_with "eval Subscript" => (k_here; k_dflt (refine' IV.use ?zqd ?_; (case zqd => tb_rel); k_whole); intro t' tk')
  k_with "exec If" => (k_here; k_dflt (first | (refine' if_f ?zqd ?_; (case zqd => tb_rel); k_whole) | (refine' if_t ?zqd ?_; (case zqd => tb_rel); k_whole)); intro tk')
  k_with "OFFA" => (first | (refine' OffA.lt ?_; assumption) | (refine' OffA.cons ?zqc ?zqd; (case zqc => first | exact Or.inr (by k_cls) | exact Or.inl (by k_ne)); (case zqd => walk_at "OFFA")))
  k_with "WO" => (first | (refine' WO.here ?_; walk_at "OFFA") | (refine' WO.cons ?zqc ?zqd; (case zqc => first | exact Or.inr (by k_cls) | exact Or.inl (by k_ne)); (case zqd => walk_at "WO")))
  k_with "UnrEnd" => (refine' unr_end ?zqF ?zqN ?zqW ?_; (case zqF => k_asm); (case zqN => k_asm); (case zqW => walk_at "WO"))
  k_with "ENTER" => (refine' code_def ?zqk1 ?zqk2 ?zqk3 ?zqk4 ?zqk5 ?zqkA ?zqkF ?zqkK ?zqk6 ?zqk7 ?zqk8 ?zqk9 ?zqkB ?_ ?zqc2 ?zqc3 ?zqc4 ?zqc5; (case zqkA => exact rfl); (case zqkF => exact rfl); (case zqkK => assumption); (case zqk1 => k_asm); (case zqk2 => k_asm); (case zqk3 => k_asm); (case zqk4 => k_asm); (case zqk5 => k_asm); (case zqk6 => k_is); (case zqk7 => k_is); (case zqk8 => ktr_room); (case zqk9 => first | exact BindsTo.of_eq rfl | exact binds_K (by k_in) rfl (by k_is) rfl rfl rfl); (case zqc5 => decide); (case zqkB => exact locs rfl); (case zqc2 => exact rfl); (case zqc3 => exact rfl); (case zqc4 => exact rfl); k_whole; intro g' L' h' FG' F' N' B' X' T'; (try dsimp only); (try k_fold))
  k_with "call ref" => (k_here; k_dflt (refine' use_int (cut_cd ?zqp0) ?zqk1 ?zqk2 ?zqk3 ?zqk4 ?zqk5 ?zqkK ?zqkd ?zqku ?_; (case zqk1 => k_asm); (case zqk2 => k_asm); (case zqk3 => k_asm); (case zqk4 => k_asm); (case zqk5 => k_asm); (case zqkK => first | exact rfl | assumption); (case zqp0 => k_get); (case zqkd => ktr_room); (case zqku => ktr_units); k_whole; intro t' h' tk' F' N'; (try k_sweep); (try dsimp only); (try k_fold)))
  intro mean mg mb dp un gd cn cs c ccd cl outer A₀ base h₀ L m s Q E B F X N T hk hd hu hret
  have hb : b ≠ 0 := by omega
  have hbn : ¬ b < 0 := by omega
  have g1 := gcd_ne (a := a) hb
  have g2 := gcd_ne (a := -a) (b := -b) (by omega)
  have s1 := bits_gcd (a := a) hb sb
  have s2 := bits_gcd (a := -a) (b := -b) (by omega) (intBits_neg_le sb)
  k_with "EQ" => first | exact fracT_pos (by assumption) | exact fracB_pos (by assumption) | exact fracT_neg (by assumption) | exact fracB_neg (by assumption)
  refine wpAny_call ?_
  k_dflt walk_at "ENTER"
  walk_at "STEPS"
  all_goals (refine' retN_pair hret ?ex ?ey ?F ?N ?l; (case F => k_asm); (case N => k_asm); (case l => assumption); (case ex => k_put); (case ey => k_put))
end
section
/-- the contract of a def that draws, called in the law's own frame -/
def CutV (w : World) (f : Addr) (k : Nat) (l : Addr) (a b : Int) (news : List (Addr × Obj)) (vs : List Value) (Out : Value → Prop) : Prop :=
  ∀ (o : Obj) (ta tb : Tok) (mean : ExcName → Option Value) (mg mb : PySem.Str → Option Value) (dp un : Nat) (gd : Option (List Code)) (cn : PySem.Str) (cs : Scope) (c : Addr) (ccd : Value) (A₀ : Around) (h₀ : Heap) (L : Addr) (m : PySem.Str → Option Value) (s : Shared) (Q E : Value → Shared → Prop),
    Src o a b ta tb → (∀ p ∈ news, p.1 ≠ l) →
    Below A₀ h₀ [] h₀ → Fr h₀ L s.heap m → (hd.heap_39 w.params).In h₀ → News h₀ L s.heap ((l, o) :: news) → Top hd.view_39 LS mean mg mb h₀ → cs.kind = .function → dp + k < recursionLimit → un + 8 * k < cLine →
    (∀ r h' tk', Fr h₀ L h' m → News h₀ L h' news → Out r → Q r { s with heap := h', toks := tk' }) →
    wpAny (model PySem.Challenge.rw_nu0010_01.row.prog w) (ktrTop dp un gd cn cs L c ccd [] []) (call (.ref f) vs) Q E s
theorem menu4 {r : Value} {a b c d : Tok} (h : r ∈ ([.int 1 a, .int 1 b, .int 2 c, .int 3 d] : List Value)) : ∃ e t, r = .int e t ∧ (e = 1 ∨ e = 2 ∨ e = 3) := by
  simp only [List.mem_cons, List.not_mem_nil, or_false] at h
  rcases h with rfl | rfl | rfl | rfl
  · exact ⟨_, _, rfl, .inl rfl⟩
  · exact ⟨_, _, rfl, .inl rfl⟩
  · exact ⟨_, _, rfl, .inr (.inl rfl)⟩
  · exact ⟨_, _, rfl, .inr (.inr rfl)⟩
section
variable {w : World} {f : Addr} {k : Nat} {news : List (Addr × Obj)} {vs : List Value} {mean : ExcName → Option Value} {mg mb : PySem.Str → Option Value} {dp un : Nat} {gd : Option (List Code)} {cn : PySem.Str} {cs : Scope} {a : Addr} {ccd : Value} {cl : List (PySem.Str × Addr)} {outer : List Env} {A₀ : Around} {base h₀ h : Heap} {L : Addr} {m : PySem.Str → Option Value} {s : Shared} {Q E : Value → Shared → Prop}
theorem use_pairN {x y : Int} (C : CutN w f k news vs (OPair x y)) (B : Below A₀ base outer h₀) (F : Fr h₀ L s.heap m) (X : (hd.heap_39 w.params).In h₀) (N : News h₀ L s.heap news) (T : Top hd.view_39 LS mean mg mb h₀) (hk : cs.kind = .function) (hdp : dp + k < recursionLimit) (hun : un + 8 * k < cLine)
    (h : ∀ a t u h' tk', Fr h₀ L h' m → News h₀ L h' ((a, pairObj (.int x t) (.int y u)) :: news) → (∀ q ∈ news, q.1 < a) → Q (.ref a) { s with heap := h', toks := tk' }) :
    wpAny (model PySem.Challenge.rw_nu0010_01.row.prog w) (ktrTop dp un gd cn cs L a ccd cl outer) (call (.ref f) vs) Q E s :=
  C _ _ _ _ _ _ _ _ _ _ _ _ _ _ _ _ _ _ _ _ B F X N T hk hdp hun fun r tl h' tk' F' N' o l => by
    obtain ⟨a, t, u, rfl, rfl⟩ := o
    exact h a t u h' tk' F' N' (l _ List.mem_cons_self)
theorem use_pairVP {x e : Int} {t u : Tok} (hx : 0 ≤ x ∧ x < 13) (he : e = 1 ∨ e = 2 ∨ e = 3) (B : Below A₀ base outer h₀) (F : Fr h₀ L s.heap m) (X : (hd.heap_39 w.params).In h₀) (N : News h₀ L s.heap news) (T : Top hd.view_39 LS mean mg mb h₀) (hk : cs.kind = .function) (hdp : dp + 2 < recursionLimit) (hun : un + 8 * 2 < cLine)
    (h : ∀ n d a t u h' tk', VP n d → Fr h₀ L h' m → News h₀ L h' ((a, pairObj (.int n t) (.int d u)) :: news) → (∀ q ∈ news, q.1 < a) → Q (.ref a) { s with heap := h', toks := tk' }) :
    wpAny (model PySem.Challenge.rw_nu0010_01.row.prog w) (ktrTop dp un gd cn cs L a ccd cl outer) (call (.ref 61) [.int (x - 6) t, .int e u]) Q E s :=
  use_pairN (cutN_fraction (by omega) (Nat.le_trans (intBits_le_64 (by omega) (by omega)) (by decide))) B F X N T hk hdp hun fun a t u h' tk' F' N' l => h _ _ a t u h' tk' ⟨x, e, hx.1, hx.2, he, rfl, rfl⟩ F' N' l
end

def W3 (I C D : Addr) (all out : List (Addr × Obj)) : Prop := (∀ p ∈ out, p ∈ all) ∧ LCg.Off3 I C D out
theorem W3.tail {I C D : Addr} {l : List (Addr × Obj)} (h : LCg.Off3 I C D l) : W3 I C D l l := ⟨fun _ h => h, h⟩
theorem W3.skip {I C D : Addr} {q : Addr × Obj} {l out : List (Addr × Obj)} (h : W3 I C D l out) : W3 I C D (q :: l) out := ⟨fun p hp => List.mem_cons_of_mem _ (h.1 p hp), h.2⟩
theorem W3.keep {I C D : Addr} {q : Addr × Obj} {l out : List (Addr × Obj)} (a : q.1 ≠ I) (b : q.1 ≠ C) (c : q.1 ≠ D) (h : W3 I C D l out) : W3 I C D (q :: l) (q :: out) := by
  refine ⟨fun p hp => ?_, ⟨a, b, c⟩, h.2⟩
  rcases List.mem_cons.mp hp with rfl | hp
  · exact List.mem_cons_self
  · exact List.mem_cons_of_mem _ (h.1 p hp)
theorem compEnd_via {h₀ : Heap} {L I C D : Addr} {m : PySem.Str → Option Value} {s₁ : Shared} {oI oC oD : Obj} {S : List (Addr × Obj) → Prop} {rest : Value → List (Addr × Obj) → Prop} {y : Value} {h' : Heap} {tk : Nat} {all out : List (Addr × Obj)}
    (F : Fr h₀ L h' m) (N : News h₀ L h' all) (hI : (I, oI) ∈ all) (hC : (C, oC) ∈ all) (hD : (D, oD) ∈ all) (W : W3 I C D all out) (hS : S out) (r : rest y out) :
    LCg.CompEnd h₀ L m s₁ I oI C oC D oD S rest y { s₁ with heap := h', toks := tk } :=
  LCg.CompEnd.intro F N out (fun p hp => by
    rcases List.mem_cons.mp hp with rfl | hp
    · exact hI
    rcases List.mem_cons.mp hp with rfl | hp
    · exact hC
    rcases List.mem_cons.mp hp with rfl | hp
    · exact hD
    · exact W.1 p hp) W.2 hS r
theorem retV {h₀ h' : Heap} {L : Addr} {m : PySem.Str → Option Value} {s : Shared} {Q : Value → Shared → Prop} {news big : List (Addr × Obj)} {tk' : Nat}
    (hret : ∀ r h' tk', Fr h₀ L h' m → News h₀ L h' news → r = .bool true → Q r { s with heap := h', toks := tk' }) (F : Fr h₀ L h' m) (N : News h₀ L h' big) (sub : ∀ p ∈ news, p ∈ big) : Q (.bool true) { s with heap := h', toks := tk' } :=
  hret _ _ _ F (fun p hp => N p (sub p hp)) rfl
/-- what the law asks of a vector on an axis or a diagonal -/
structure VecA (x0 x1 y0 y1 v : Int) : Prop where
  H : dgR x0 x1 y0 y1 = some (v, 1)
  v0 : 0 ≤ v
  v1 : v < 360 * 1
  c : x0 = 0 ∨ (x0 ≠ 0 ∧ y0 = 0) ∨ (x0 ≠ 0 ∧ y0 ≠ 0 ∧ (if x0 < 0 then -x0 else x0) * y1 = (if y0 < 0 then -y0 else y0) * x1)
  d : x0 ≠ 0 ∨ (x0 = 0 ∧ y0 ≠ 0)
  w : waysV (signV x0) (signV y0) = some v
/-- what it asks of another vector -/
structure VecG (x0 x1 y0 y1 g0 g1 c0 c1 s0 s1 : Int) : Prop where
  H : dgR x0 x1 y0 y1 = some (g0, g1)
  p0 : 0 ≤ g0
  p1 : g0 < 360 * g1
  hg : 0 < g1
  nx : x0 ≠ 0
  ny : y0 ≠ 0
  nd : Hid ((if x0 < 0 then -x0 else x0) * y1 ≠ (if y0 < 0 then -y0 else y0) * x1)
  T : toR g0 g1 1073741824 = some (c0, c1, s0, s1)
  ah : Hid (¬ (x0 * y1 * c0 * s1 + y0 * x1 * s0 * c1 ≤ 0))
  ac : Hid (¬ ((if (x0 * y1) < 0 then -(x0 * y1) else (x0 * y1)) + (if (y0 * x1) < 0 then -(y0 * x1) else (y0 * x1))) * c1 * s1 < (if (x0 * y1 * s0 * c1 - y0 * x1 * c0 * s1) < 0 then -(x0 * y1 * s0 * c1 - y0 * x1 * c0 * s1) else (x0 * y1 * s0 * c1 - y0 * x1 * c0 * s1)) * 3700000)
  M : dgR x0 x1 (-y0) y1 = some (fracT (360 * g1 - g0) g1, fracB (360 * g1 - g0) g1)
  b0 : Bt 100 g0
  b1 : Bt 100 g1
  z1 : Bt 60 c0
  z2 : Bt 60 c1
  z3 : Bt 60 s0
  z4 : Bt 60 s1
def VecOk (x0 x1 y0 y1 : Int) : Prop := (0 < x1 ∧ 0 < y1 ∧ Bt 40 x0 ∧ Bt 40 x1 ∧ Bt 40 y0 ∧ Bt 40 y1) ∧ ((x0 = 0 ∧ y0 = 0) ∨ (¬ (x0 = 0 ∧ y0 = 0) ∧ ((∃ v, VecA x0 x1 y0 y1 v) ∨ ∃ g0 g1 c0 c1 s0 s1, VecG x0 x1 y0 y1 g0 g1 c0 c1 s0 s1)))
def VecLaw : Prop := ∀ x0 x1 y0 y1, VP x0 x1 → VP y0 y1 → VecOk x0 x1 y0 y1
theorem vec_hook {P : Prop} {g h : Heap} {L px py : Addr} {m : PySem.Str → Option Value} {news : List (Addr × Obj)} {x0 x1 y0 y1 : Int} {tx ux ty uy : Tok} (hv : VecLaw) (F : Fr g L h m) (N : News g L h news) (kx : m "x" = some (.ref px)) (ky : m "y" = some (.ref py))
    (mx : (px, pairObj (.int x0 tx) (.int x1 ux)) ∈ news) (my : (py, pairObj (.int y0 ty) (.int y1 uy)) ∈ news) (vx : VP x0 x1) (vy : VP y0 y1) (own : List (Addr × Obj)) (sub : ∀ p ∈ own, p ∈ news)
    (z : News g L h ((px, pairObj (.int x0 tx) (.int x1 ux)) :: (py, pairObj (.int y0 ty) (.int y1 uy)) :: own) → 0 < x1 → 0 < y1 → Bt 40 x0 → Bt 40 x1 → Bt 40 y0 → Bt 40 y1 → x0 = 0 → y0 = 0 → ((x0.natAbs : Nat) : Int) * y1 = 0 → ((y0.natAbs : Nat) : Int) * x1 = 0 → P)
    (ax : ∀ v, News g L h ((px, pairObj (.int x0 tx) (.int x1 ux)) :: (py, pairObj (.int y0 ty) (.int y1 uy)) :: own) → 0 < x1 → 0 < y1 → Bt 40 x0 → Bt 40 x1 → Bt 40 y0 → Bt 40 y1 → ¬ (x0 = 0 ∧ y0 = 0) → VecA x0 x1 y0 y1 v → P)
    (ge : ∀ g0 g1 c0 c1 s0 s1, News g L h ((px, pairObj (.int x0 tx) (.int x1 ux)) :: (py, pairObj (.int y0 ty) (.int y1 uy)) :: own) → 0 < x1 → 0 < y1 → Bt 40 x0 → Bt 40 x1 → Bt 40 y0 → Bt 40 y1 → VecG x0 x1 y0 y1 g0 g1 c0 c1 s0 s1 → P) : P := by
  have N2 : News g L h ((px, pairObj (.int x0 tx) (.int x1 ux)) :: (py, pairObj (.int y0 ty) (.int y1 uy)) :: own) := fun p hp => by
    rcases List.mem_cons.mp hp with rfl | hp
    · exact N _ mx
    rcases List.mem_cons.mp hp with rfl | hp
    · exact N _ my
    · exact N _ (sub p hp)
  obtain ⟨⟨a1, a2, a3, a4, a5, a6⟩, ⟨q1, q2⟩ | ⟨q1, ⟨v, q2⟩ | ⟨g0, g1, c0, c1, s0, s1, q2⟩⟩⟩ := hv _ _ _ _ vx vy
  · exact z N2 a1 a2 a3 a4 a5 a6 q1 q2 (by rw [q1]; exact Int.zero_mul _) (by rw [q2]; exact Int.zero_mul _)
  · exact ax v N2 a1 a2 a3 a4 a5 a6 q1 q2
  · exact ge _ _ _ _ _ _ N2 a1 a2 a3 a4 a5 a6 q2
def JB (b₀ : Bool) (s : Shared) (b : Bool) (s' : Shared) : Prop := b = b₀ ∧ ∃ tk, s' = { s with toks := tk }
def JI (x : Int) (s : Shared) (v : Value) (s' : Shared) : Prop := (∃ t, v = .int x t) ∧ ∃ tk, s' = { s with toks := tk }
section
variable {M : Model} {A : Around} {E : Value → Shared → Prop} {s : Shared} {env : Env}
theorem if_joinF {test : PySem.Expr} {body orelse : List Stmt} {pos : Pos} {Q : Flow → Shared → Prop} (h1 : wpAny M A (isTrue test env (eval test env)) (JB false s) E s) (h2 : ∀ tk, wpAny M A (execs orelse env) Q E { s with toks := tk }) :
    wpAny M A (exec (.If test body orelse pos) env) Q E s := by
  refine wpAny_If (wpAny_mono h1 (fun c s₂ h₂ => ?_) fun _ _ x => x)
  obtain ⟨rfl, tk, rfl⟩ := h₂
  exact h2 tk
theorem jb_mk {b b₀ : Bool} {tk : Nat} (h : b = b₀) : JB b₀ s b { s with toks := tk } := by subst h; exact ⟨rfl, tk, rfl⟩
theorem room_of {prog : Program} {w : World} {A : Around} (h : A.units + 1 < cLine) : (ITK prog w).room A := Nat.lt_of_succ_lt h
theorem if_join {test : PySem.Expr} {body orelse : List Stmt} {pos : Pos} {Q : Flow → Shared → Prop} (h1 : wpAny M A (isTrue test env (eval test env)) (JB true s) E s) (h2 : ∀ tk, wpAny M A (execs body env) Q E { s with toks := tk }) :
    wpAny M A (exec (.If test body orelse pos) env) Q E s := by
  refine wpAny_If (wpAny_mono h1 (fun c s₂ h₂ => ?_) fun _ _ x => x)
  obtain ⟨rfl, tk, rfl⟩ := h₂
  exact h2 tk
theorem sgn_join {h₀ : Heap} {L C a : Addr} {news : List (Addr × Obj)} {oC : Obj} {m₂ : PySem.Str → Option Value} {scope : Scope} {cl : List (PySem.Str × Addr)} {n d : Int} {t u : Tok} {test a1 a2 : PySem.Expr} {pos : Pos} {Q : Value → Shared → Prop}
    (N : News h₀ L s.heap news) (hm : (C, oC) ∈ news) (hC : LCg.NsObj oC m₂) (hx : m₂ "one" = some (.ref a)) (ha : (a, pairObj (.int n t) (.int d u)) ∈ news)
    (h1 : wpAny M A (isTrue test (compEnvC scope cl C env) (eval test (compEnvC scope cl C env))) (fun c s₂ => if c then wpAny M A (eval a1 (compEnvC scope cl C env)) (JI (signV n) s) E s₂ else wpAny M A (eval a2 (compEnvC scope cl C env)) (JI (signV n) s) E s₂) E s)
    (h2 : ∀ t tk, Q (.int (signV n) t) { s with toks := tk }) : wpAny M A (eval (.IfExp test a1 a2 pos) (compEnvC scope cl C env)) Q E s :=
  wpAny_mono (IfExp_ h1) (fun v s' h' => by obtain ⟨⟨t, rfl⟩, tk, rfl⟩ := h'; exact h2 t tk) fun _ _ x => x
theorem sg_pos {x : Int} (h : 0 < x) : 1 = signV x := by simp [signV, h]
theorem sg_neg {x : Int} (h : ¬ 0 < x) (g : x < 0) : -1 = signV x := by simp [signV, h, g]
theorem sg_zero {x : Int} (h : ¬ 0 < x) (g : ¬ x < 0) : 0 = signV x := by simp [signV, h, g]
theorem dec_split {c : Prop} [Decidable c] {P Q : Prop} (h1 : c → P) (h2 : ¬ c → Q) : if decide c = true then P else Q := by
  by_cases h : c
  · rw [if_pos (by simp [h])]; exact h1 h
  · rw [if_neg (by simp [h])]; exact h2 h
theorem ji_mk {x y : Int} {t : Tok} {tk : Nat} (h : y = x) : JI x s (.int y t) { s with toks := tk } := by subst h; exact ⟨⟨t, rfl⟩, tk, rfl⟩
end
set_option maxHeartbeats 40000000 in
theorem cut_vector {w : World} {news : List (Addr × Obj)} {l : Addr} {a b : Int} (So : SrcOk a b) (hv : VecLaw) : CutV w 274 12 l a b news [.ref l] (fun r => r = .bool true) := by
  w_top off
  unfold CutV
  k_fill
  k_with_none
  k_with "ktr_room" => (first | exact dp_le (by with_reducible assumption) (by decide) | exact dp_le0 (by with_reducible assumption) (by decide) | exact Nat.lt_of_le_of_lt (Nat.le_add_right _ _) (by with_reducible assumption) | fail "room")
  k_with "ktr_units" => (first | exact un_le (by with_reducible assumption) (by decide) | exact un_le0 (by with_reducible assumption) (by decide) | exact Nat.lt_of_le_of_lt (Nat.le_add_right _ _) (by with_reducible assumption) | fail "units")
  k_with "k_slotset" => (intro p hp; repeat (first | exact hp | refine List.mem_cons_of_mem _ ?_))
  k_with "k_put" => (first | with_reducible rfl | omega | assumption | (simp only [Int.mul_one, Int.one_mul]; done) | (simp only [signV]; (repeat' split) <;> first | with_reducible rfl | omega) | k_extra "EQ")
  k_with "bits_by_make" => (first | with_reducible assumption | ((with_reducible apply bits_fracT); bits_by_make) | ((with_reducible apply bits_fracB); bits_by_make) | exact PySem.intBits_le_64 (by decide) (by decide) | exact PySem.intBits_le_64 (by omega) (by omega) | exact bits_lit200 (by decide +kernel) | fail "bits")
  k_with "k_slotget" => (first | exact List.mem_cons_self | with_reducible assumption | (refine' List.mem_cons_of_mem _ ?_; k_slotget) | fail "mem")
  k_with "subscriptTail Name Constant ref int" => (k_here; k_dflt (refine' item_tupleT (News.isTup ?zqn ?zqm) ?zqa ?zqb ?zqc ?zqd ?_; (case zqn => k_asm); (case zqm => k_slotget); (case zqa => decide); (case zqb => decide); (case zqc => exact rfl); (case zqd => exact rfl); k_whole))
  k_with "execs cons" => (with_reducible refine gen_toks3 (fun tk' => ?_))
  k_with "execs nil" => (with_reducible refine gen_toks3 (fun tk' => ?_))
  k_with "eval Name" => (k_here; k_dflt (first   | (refine' ld ?zqk1 ?zqk2 ?_; (case zqk1 => k_asm); (case zqk2 => exact rfl); k_whole)   | (refine' name_K ?zqkF ?zqk1 ?zqk2 ?zqk3 ?_; (case zqkF => k_asm); (case zqk1 => k_asm); (case zqk2 => k_asm); (case zqk3 => k_is); k_whole)))
  k_with "k_get" => (first | with_reducible assumption | k_slotget | exact Nat.le_trans (by with_reducible assumption) (by decide) | k_extra "P" | decide | omega | (refine intBits_le_64 ?_ ?_ <;> omega) | (exact Nat.le_trans (by bits_by_make) (by decide)) | assumption)
  k_with "ktd_handed" => (first | with_reducible assumption | decide | omega | k_extra "NZ")
  k_with "binaryOp FloorDiv int int" => (k_here; (with_reducible refine floordiv_int ?zqkbe ?_ (Or.inl (PyProof.noPylong_of_log2 ?zqkbp))); (case zqkbe => ktd_handed); (case zqkbp => exact log_of_bits (by bits_by_make) (by decide)))
  k_with "binaryOp Mod int int" => (k_here; (with_reducible refine mod_int' ?zqkbe ?_); (case zqkbe => ktd_handed))
  k_with "binaryOp Mod int int" => (with_reducible refine' mod_int_v ?zqhb ?zqe ?_; (case zqe => with_reducible assumption); (case zqhb => ktd_handed))
  k_with "binaryOp Mod int int" => (k_extra "MYMOD")
  k_with "binaryOp Mult int int" => (k_here; k_dflt (refine' PyProof.Rows.mul_int ?_ ?zqhm; (case zqhm => exact PyProof.Rows.mulOk_of_bits (by bits_by_make) (by bits_by_make) (by decide))))
  k_with "binaryOp Pow int int" => (with_reducible refine' pow2_int ?zqh ?_; (case zqh => first | with_reducible assumption | omega))
  k_with "exec Raise some none" => (exfalso; first | contradiction | omega)
  k_with "END" => (first   | (refine' ret_int ?zqh ?zqe ?zqF ?zqN ?zqsub; (case zqh => assumption); (case zqF => k_asm); (case zqN => k_asm); (case zqsub => k_slotset); (case zqe => k_put))   | (refine' ret_bool ?zqh ?zqe ?zqF ?zqN ?zqsub; (case zqh => assumption); (case zqF => k_asm); (case zqN => k_asm); (case zqsub => k_slotset); (case zqe => k_put))   | (refine' ret_pair ?zqh ?zqhm ?zqex ?zqey ?zqF ?zqN ?zqsub; (case zqh => assumption); (case zqF => k_asm); (case zqN => k_asm); (case zqsub => k_slotset); (case zqhm => k_slotget); (case zqex => k_put); (case zqey => k_put))   | (refine' ret_turn ?zqh ?zqhb ?zqhc ?zqhd ?zqe0 ?zqe1 ?zqe2 ?zqe3 ?zqF ?zqN ?zqsub; (case zqh => assumption); (case zqF => k_asm); (case zqN => k_asm); (case zqsub => k_slotset); (case zqhb => k_slotget); (case zqhc => k_slotget); (case zqhd => k_slotget); (case zqe0 => k_put); (case zqe1 => k_put); (case zqe2 => k_put); (case zqe3 => k_put)))
  k_with "exec While Compare cons nil" => (k_extra "MYWHILE")
  k_with "KswEnd" => (k_extra "MYTURN")
  k_with "x_auto" => (first | with_reducible assumption | omega | k_extra "FACT" | fail "fact")
  k_with "ite" => (first   | (with_reducible refine' ine_t ?zqh ?_; (case zqh => x_auto))   | (with_reducible refine' ine_f ?zqh ?_; (case zqh => x_auto))   | (with_reducible refine' ieq_t ?zqh ?_; (case zqh => x_auto))   | (with_reducible refine' ieq_f ?zqh ?_; (case zqh => x_auto))   | (with_reducible refine' dec_t ?zqh ?_; (case zqh => x_auto))   | (with_reducible refine' dec_f ?zqh ?_; (case zqh => x_auto)))
  k_with "eval BinOp" => (k_here; k_dflt (refine' IV.use ?zqd ?_; (case zqd => tb_rel); k_whole); intro t' tk')
  k_with "eval Tuple" => (k_here; k_dflt (refine' tup2 ?zqda ?zqdb ?zqF ?zqN ?_; (case zqda => tb_rel); (case zqdb => tb_rel); (case zqF => k_asm); (case zqN => k_asm); k_whole); intro D' t' u' h' tk' F' N' l1; (try k_lt l1); (try k_sweep))
  k_with "eval UnaryOp" => (k_here; k_dflt (refine' IV.use ?zqd ?_; (case zqd => tb_rel); k_whole); intro t' tk')
  k_with "eval Subscript" => (k_here; k_dflt (refine' IV.use ?zqd ?_; (case zqd => tb_rel); k_whole); intro t' tk')
  k_with "exec If" => (k_here; k_dflt (first | (refine' if_f ?zqd ?_; (case zqd => tb_rel); k_whole) | (refine' if_t ?zqd ?_; (case zqd => tb_rel); k_whole)); intro tk')
  k_with "OFFA" => (first | (refine' OffA.lt ?_; assumption) | (refine' OffA.cons ?zqc ?zqd; (case zqc => first | exact Or.inr (by k_cls) | exact Or.inl (by k_ne)); (case zqd => walk_at "OFFA")))
  k_with "WO" => (first | (refine' WO.here ?_; walk_at "OFFA") | (refine' WO.cons ?zqc ?zqd; (case zqc => first | exact Or.inr (by k_cls) | exact Or.inl (by k_ne)); (case zqd => walk_at "WO")))
  k_with "UnrEnd" => (refine' unr_end ?zqF ?zqN ?zqW ?_; (case zqF => k_asm); (case zqN => k_asm); (case zqW => walk_at "WO"))
  k_with "ENTER" => (refine' code_def ?zqk1 ?zqk2 ?zqk3 ?zqk4 ?zqk5 ?zqkA ?zqkF ?zqkK ?zqk6 ?zqk7 ?zqk8 ?zqk9 ?zqkB ?_ ?zqc2 ?zqc3 ?zqc4 ?zqc5; (case zqkA => exact rfl); (case zqkF => exact rfl); (case zqkK => assumption); (case zqk1 => k_asm); (case zqk2 => k_asm); (case zqk3 => k_asm); (case zqk4 => k_asm); (case zqk5 => k_asm); (case zqk6 => k_is); (case zqk7 => k_is); (case zqk8 => ktr_room); (case zqk9 => first | exact BindsTo.of_eq rfl | exact binds_K (by k_in) rfl (by k_is) rfl rfl rfl); (case zqc5 => decide); (case zqkB => exact locs rfl); (case zqc2 => exact rfl); (case zqc3 => exact rfl); (case zqc4 => exact rfl); k_whole; intro g' L' h' FG' F' N' B' X' T'; (try dsimp only); (try k_fold))
  k_with "subscriptTail Name Constant ref int" => (k_here; k_dflt (first   | ((with_reducible show wpAny _ _ (subscriptTail _ _ (Value.ref _) (Value.int 0 _)) _ _ _); refine' src_item0 ?zqn ?zqm ?zqs ?_; (case zqn => k_asm); (case zqm => k_slotget); (case zqs => with_reducible assumption); k_whole)   | ((with_reducible show wpAny _ _ (subscriptTail _ _ (Value.ref _) (Value.int 1 _)) _ _ _); refine' src_item1 ?zqn ?zqm ?zqs ?_; (case zqn => k_asm); (case zqm => k_slotget); (case zqs => with_reducible assumption); k_whole)))
  k_with "setItem ref int" => (k_here; k_dflt (first   | ((with_reducible show wpAny _ _ (setItem (Value.ref _) (Value.int 0 _) _) _ _ _); refine' src_set0 ?zqF ?zqN ?zqs ?zqe ?_; (case zqF => k_asm); (case zqN => k_asm); (case zqs => with_reducible assumption); (case zqe => with_reducible assumption); k_whole)   | ((with_reducible show wpAny _ _ (setItem (Value.ref _) (Value.int 1 _) _) _ _ _); refine' src_set1 ?zqF ?zqN ?zqs ?zqe ?_; (case zqF => k_asm); (case zqN => k_asm); (case zqs => with_reducible assumption); (case zqe => with_reducible assumption); k_whole)); intro h' o' F' N' S'; (try k_sweep))
  k_with "k_data" => (first | (refine' WS.tail ?zqh; (case zqh => with_reducible assumption)) | (refine' WS.keep ?zqh ?zqr; (case zqh => first | exact Or.inr rfl | exact Or.inl (by k_ne)); (case zqr => k_data)) | (refine' WS.skip ?zqr; (case zqr => k_data)))
  k_with "call ref" => (k_here; k_dflt (refine' use_takeI (cut_take ?zqp0 ?zqp1 ?zqp2) ?zqk1 ?zqk2 ?zqk3 ?zqk4 ?zqk5 ?zqkK ?zqkd ?zqku ?zqS ?zqhl ?zqW ?_; (case zqk1 => k_asm); (case zqk2 => k_asm); (case zqk3 => k_asm); (case zqk4 => k_asm); (case zqk5 => k_asm); (case zqkK => first | exact rfl | assumption); (case zqhl => k_slotget); (case zqS => with_reducible assumption); (case zqW => k_data); (case zqp0 => k_get); (case zqp1 => k_get); (case zqp2 => k_get); (case zqkd => ktr_room); (case zqku => ktr_units); k_whole; intro x' t' o' a' b' ta' tb' h' tk' P' S' O' e' F' N'; (try k_sweep); (try dsimp only at P');  (try dsimp only); (try k_fold)))
  k_with "call ref" => (k_here; k_dflt (refine' use_takeV (cut_one ?zqp0 ?zqp1 ?zqp2 ?zqp3) ?zqk1 ?zqk2 ?zqk3 ?zqk4 ?zqk5 ?zqkK ?zqkd ?zqku ?zqS ?zqhl ?zqW ?_; (case zqk1 => k_asm); (case zqk2 => k_asm); (case zqk3 => k_asm); (case zqk4 => k_asm); (case zqk5 => k_asm); (case zqkK => first | exact rfl | assumption); (case zqhl => k_slotget); (case zqS => with_reducible assumption); (case zqW => k_data); (case zqp0 => k_get); (case zqp1 => k_get); (case zqp2 => k_get); (case zqp3 => k_get); (case zqkd => ktr_room); (case zqku => ktr_units); k_whole; intro r' o' a' b' ta' tb' h' tk' P' S' O' e' F' N'; (try k_sweep); (try dsimp only at P'); (have P'2 := menu4 P'; clear P'; obtain ⟨e', te', he', P'⟩ := P'2; subst he'); (try dsimp only); (try k_fold)))
  k_with "call ref" => (k_here; k_dflt (refine' use_pair (cut_fraction ?zqp0 ?zqp1) ?zqk1 ?zqk2 ?zqk3 ?zqk4 ?zqk5 ?zqkK ?zqkd ?zqku ?_; (case zqk1 => k_asm); (case zqk2 => k_asm); (case zqk3 => k_asm); (case zqk4 => k_asm); (case zqk5 => k_asm); (case zqkK => first | exact rfl | assumption); (case zqp0 => k_get); (case zqp1 => k_get); (case zqkd => ktr_room); (case zqku => ktr_units); k_whole; intro a' t' u' h' tk' F' N'; (try k_sweep); (try dsimp only); (try k_fold)))
  k_with "call ref" => (k_here; k_dflt (refine' use_turn (cut_turn ?zqp0 ?zqp1 ?zqp2 ?zqp3 ?zqp4 ?zqp5 ?zqp6) ?zqk1 ?zqk2 ?zqk3 ?zqk4 ?zqk5 ?zqkK ?zqkd ?zqku ?_; (case zqk1 => k_asm); (case zqk2 => k_asm); (case zqk3 => k_asm); (case zqk4 => k_asm); (case zqk5 => k_asm); (case zqkK => first | exact rfl | assumption); (case zqp0 => k_get); (case zqp1 => k_get); (case zqp2 => k_get); (case zqp3 => k_get); (case zqp4 => k_get); (case zqp5 => k_get); (case zqp6 => k_get); (case zqkd => ktr_room); (case zqku => ktr_units); k_whole; intro a' c' d' t' u' v' z' h' tk' F' N'; (try k_sweep); (try dsimp only); (try k_fold)))
  k_with "call ref" => (k_here; k_dflt (refine' use_pair (cut_dg ?zqp0 ?zqp1 ?zqp2 ?zqp3 ?zqp4 ?zqp5 ?zqp6 ?zqp7 ?zqp8) ?zqk1 ?zqk2 ?zqk3 ?zqk4 ?zqk5 ?zqkK ?zqkd ?zqku ?_; (case zqk1 => k_asm); (case zqk2 => k_asm); (case zqk3 => k_asm); (case zqk4 => k_asm); (case zqk5 => k_asm); (case zqkK => first | exact rfl | assumption); (case zqp0 => k_get); (case zqp1 => k_get); (case zqp2 => k_get); (case zqp3 => k_get); (case zqp4 => k_get); (case zqp5 => k_get); (case zqp6 => k_get); (case zqp7 => k_get); (case zqp8 => k_get); (case zqkd => ktr_room); (case zqku => ktr_units); k_whole; intro a' t' u' h' tk' F' N'; (try k_sweep); (try dsimp only); (try k_fold)))
  k_with "call ref" => (k_here; k_dflt (refine' use_fault (cutE_degrees ?zqp0 ?zqp1 ?zqp2 ?zqp3 ?zqp4 ?zqp5 ?zqp6 ?zqp7) ?zqk1 ?zqk2 ?zqk3 ?zqk4 ?zqk5 ?zqkK ?zqkd ?zqku ?_; (case zqk1 => k_asm); (case zqk2 => k_asm); (case zqk3 => k_asm); (case zqk4 => k_asm); (case zqk5 => k_asm); (case zqkK => first | exact rfl | assumption); (case zqp0 => k_get); (case zqp1 => k_get); (case zqp2 => k_get); (case zqp3 => k_get); (case zqp4 => k_get); (case zqp5 => k_get); (case zqp6 => k_get); (case zqp7 => k_get); (case zqkd => ktr_room); (case zqku => ktr_units); k_whole; intro e' G' h' tk' F' R' U'; (try k_sweep); (try dsimp only); (try k_fold)))
  k_with "call ref" => (k_here; (with_reducible show wpAny _ _ (call (Value.ref 61) _) _ _ _); k_dflt (refine' use_pairVP ?zqhx ?zqhe ?zqk1 ?zqk2 ?zqk3 ?zqk4 ?zqk5 ?zqkK ?zqkd ?zqku ?_; (case zqhx => assumption); (case zqhe => assumption); (case zqk1 => k_asm); (case zqk2 => k_asm); (case zqk3 => k_asm); (case zqk4 => k_asm); (case zqk5 => k_asm); (case zqkK => first | exact rfl | assumption); (case zqkd => ktr_room); (case zqku => ktr_units); k_whole; intro n' d' a' t' u' h' tk' V' F' N' l1; (try k_lt l1); (try k_sweep); (try dsimp only); (try k_fold)))
  k_with "eval Name" => (k_here; (with_reducible show wpAny _ _ (eval (Expr.Name (PySem.Str.ofString "range") _) _) _ _ _); k_dflt (refine' name_B ?zqkF ?zqk1 ?zqk2 ?zqk3 ?zqk4 ?zqk5 ?_; (case zqkF => k_asm); (case zqk1 => k_asm); (case zqk2 => k_asm); (case zqk3 => k_is); (case zqk4 => boot_by_name); (case zqk5 => decide); k_whole))
  k_with "eval Name" => (k_here; (with_reducible show wpAny _ _ (eval (Expr.Name _ _) (compEnvC _ _ _ _)) _ _ _); k_dflt (first   | (refine' lcf_cell ?zqN ?zqc ?zqm ?zqd ?_ ?zqa ?zqb; (case zqa => rfl); (case zqb => rfl); (case zqN => k_asm); (case zqc => rfl); (case zqm => k_mem); (case zqd => k_asm); k_whole)   | refine LCgL.ld_own (by k_asm) (by k_mem) (by assumption) (by assumption) ?_   | refine LCgL.ld_global (by k_asm) (by k_asm) (by k_asm) (by k_is) ?_   | refine LCgL.ld_built (by k_asm) (by k_asm) (by k_asm) (by k_is) (by boot_by_name) (by decide) ?_))
  k_with "k_ne" => ((rename (_ ∧ _ ∧ _) ∧ _ => offX); with_reducible first | exact offX.1.1 | exact Ne.symm offX.1.1 | exact offX.1.2.1 | exact Ne.symm offX.1.2.1 | exact offX.1.2.2 | exact Ne.symm offX.1.2.2 | exact offX.2.1.1 | exact Ne.symm offX.2.1.1 | exact offX.2.1.2.1 | exact Ne.symm offX.2.1.2.1 | exact offX.2.1.2.2 | exact Ne.symm offX.2.1.2.2 | exact offX.2.2.1.1 | exact Ne.symm offX.2.2.1.1 | exact offX.2.2.1.2.1 | exact Ne.symm offX.2.2.1.2.1 | exact offX.2.2.1.2.2 | exact Ne.symm offX.2.2.1.2.2 | exact offX.2.2.2.1.1 | exact Ne.symm offX.2.2.2.1.1 | exact offX.2.2.2.1.2.1 | exact Ne.symm offX.2.2.2.1.2.1 | exact offX.2.2.2.1.2.2 | exact Ne.symm offX.2.2.2.1.2.2 | exact offX.2.2.2.2.1.1 | exact Ne.symm offX.2.2.2.2.1.1 | exact offX.2.2.2.2.1.2.1 | exact Ne.symm offX.2.2.2.2.1.2.1 | exact offX.2.2.2.2.1.2.2 | exact Ne.symm offX.2.2.2.2.1.2.2 | exact offX.2.2.2.2.2.1.1 | exact Ne.symm offX.2.2.2.2.2.1.1 | exact offX.2.2.2.2.2.1.2.1 | exact Ne.symm offX.2.2.2.2.2.1.2.1 | exact offX.2.2.2.2.2.1.2.2 | exact Ne.symm offX.2.2.2.2.2.1.2.2 | fail "ne")
  k_with "lcg_off" => (first   | (refine' W3.tail ?zqh; (case zqh => ((rename (_ ∧ _ ∧ _) ∧ _ => offX); (first | exact offX | exact offX.2 | exact offX.2.2 | exact offX.2.2.2 | exact offX.2.2.2.2 | exact offX.2.2.2.2.2 | exact offX.2.2.2.2.2.2 | exact offX.2.2.2.2.2.2.2 | exact offX.2.2.2.2.2.2.2.2 | exact offX.2.2.2.2.2.2.2.2.2 | exact offX.2.2.2.2.2.2.2.2.2.2 | exact offX.2.2.2.2.2.2.2.2.2.2.2 | exact offX.2.2.2.2.2.2.2.2.2.2.2.2 | exact offX.2.2.2.2.2.2.2.2.2.2.2.2.2 | exact offX.2.2.2.2.2.2.2.2.2.2.2.2.2.2 | exact offX.2.2.2.2.2.2.2.2.2.2.2.2.2.2.2 | exact offX.2.2.2.2.2.2.2.2.2.2.2.2.2.2.2.2 | exact offX.2.2.2.2.2.2.2.2.2.2.2.2.2.2.2.2.2 | exact offX.2.2.2.2.2.2.2.2.2.2.2.2.2.2.2.2.2.2 | exact offX.2.2.2.2.2.2.2.2.2.2.2.2.2.2.2.2.2.2.2 | exact offX.2.2.2.2.2.2.2.2.2.2.2.2.2.2.2.2.2.2.2.2 | exact offX.2.2.2.2.2.2.2.2.2.2.2.2.2.2.2.2.2.2.2.2.2 | exact offX.2.2.2.2.2.2.2.2.2.2.2.2.2.2.2.2.2.2.2.2.2.2 | exact offX.2.2.2.2.2.2.2.2.2.2.2.2.2.2.2.2.2.2.2.2.2.2.2))))   | ((first | (refine' W3.keep ?zqa ?zqb ?zqc ?zqr; (case zqa => k_ne); (case zqb => k_ne); (case zqc => k_ne)) | (refine' W3.skip ?zqr)); (case zqr => lcg_off)))
  k_with "CompEnd" => (k_dflt (refine' compEnd_via ?zqF ?zqN ?zqI ?zqC ?zqD ?zqW ?zqS ?_; (case zqF => k_asm); (case zqN => k_asm); (case zqI => k_slotget); (case zqC => k_slotget); (case zqD => k_slotget); (case zqW => lcg_off); (case zqS => lcg_src); k_whole))
  k_with "ENTERV" => (refine' code_cellsS0 ?zqk1 ?zqk2 ?zqk3 ?zqk4 ?zqk5 ?zqkA ?zqk6 ?zqk7 ?zqk8 ?zqk9 ?zqkB ?zqkD ?_ ?zqcK ?zqc2 ?zqc3 ?zqc4; (case zqkA => exact rfl); (case zqk2 => k_asm); (case zqk1 => k_asm); (case zqk3 => k_asm); (case zqk4 => k_asm); (case zqk5 => k_asm); (case zqk6 => k_is); (case zqk7 => k_is); (case zqk8 => ktr_room); (case zqk9 => first | exact BindsTo.of_eq rfl | exact binds_K (by k_in) rfl (by k_is) rfl rfl rfl); (case zqkB => exact rfl); (case zqkD => decide +kernel); (case zqcK => assumption); (case zqc2 => exact rfl); (case zqc3 => exact rfl); (case zqc4 => exact rfl); k_whole; intro g' L' h' tk' cells' FG' F' N' Y' B' X' T' D' l1; (try k_lt l1); k_cells Y'; (try simp only [List.cons_append, List.nil_append] at N'); (try dsimp only); (try k_fold))
  k_with "eval ListComp" => (k_here; k_dflt (refine LCg.ListComp_U (F₀ := by k_asm) (by with_unfolding_all rfl) (by decide) (by rfl) (by decide) (by rfl) ?_))
  k_with "CompSrc" => (k_here; k_dflt (first   | (refine LCg.CompSrc.ledger (by rfl) (by k_asm) (by k_asm) (by k_mem) (by first | size_fits | exact Nat.le_of_ble_eq_true rfl) ?_; intro g'; lcg_lit)   | (refine LCg.CompSrc.range (by rfl) (by k_asm) (by k_asm) (by assumption) (by first | decide | rfl) (by first | rfl | decide) (by first | size_fits | exact Nat.le_of_ble_eq_true rfl) ?_; intro g'; lcg_lit)))
  k_with "subscriptTail List BinOp ref int" => (k_here; k_dflt (refine' item_listN ?zqn ?zqm ?zqa ?zqb ?zqc ?_; (case zqn => k_asm); (case zqm => k_slotget); (case zqa => first | decide | omega); (case zqb => first | decide | omega); (case zqc => exact rfl); k_whole))
  k_with "compareOp NotEq ref ref" => (k_here; (with_reducible show wpAny _ _ (compareOp CmpOp.NotEq (Value.ref _) (Value.ref _)) _ _ _); k_dflt (refine' cmp_turn_ne ?zqN ?zqha ?zqhc ?zqhd ?zqhA ?zqhC ?zqhD ?zqe0 ?zqe1 ?zqe2 ?zqe3 ?zqhu ?_; (case zqN => k_asm); (case zqha => k_slotget); (case zqhc => k_slotget); (case zqhd => k_slotget); (case zqhA => k_slotget); (case zqhC => k_slotget); (case zqhD => k_slotget); (case zqe0 => k_put); (case zqe1 => k_put); (case zqe2 => k_put); (case zqe3 => k_put); (case zqhu => ktr_units); k_whole))
  k_with "compareOp Eq ref ref" => (k_here; (with_reducible show wpAny _ _ (compareOp CmpOp.Eq (Value.ref _) (Value.ref _)) _ _ _); k_dflt (refine' cmp_pair_eq ?zqN ?zqhc ?zqhC ?zqe0 ?zqe1 ?zqhu ?_; (case zqN => k_asm); (case zqhc => k_slotget); (case zqhC => k_slotget); (case zqe0 => k_put); (case zqe1 => k_put); (case zqhu => ktr_units); k_whole))
  k_with "compareOp Eq ref ref" => (k_here; (with_reducible show wpAny _ _ (compareOp CmpOp.Eq (Value.ref _) (Value.ref _)) _ _ _); k_dflt (refine' cmp_turn_eq ?zqN ?zqha ?zqhc ?zqhd ?zqhA ?zqhC ?zqhD ?zqe0 ?zqe1 ?zqe2 ?zqe3 ?zqhu ?_; (case zqN => k_asm); (case zqha => k_slotget); (case zqhc => k_slotget); (case zqhd => k_slotget); (case zqhA => k_slotget); (case zqhC => k_slotget); (case zqhD => k_slotget); (case zqe0 => k_put); (case zqe1 => k_put); (case zqe2 => k_put); (case zqe3 => k_put); (case zqhu => ktr_units); k_whole))
  k_with "ENTERT" => (refine' code_defS0 ?zqk1 ?zqk2 ?zqk3 ?zqk4 ?zqk5 ?zqkA ?zqk6 ?zqk7 ?zqk8 ?zqk9 ?zqkB ?_ ?zqcK ?zqc2 ?zqc3 ?zqc4 ?zqc5; (case zqkA => exact rfl); (case zqk2 => k_asm); (case zqk1 => k_asm); (case zqk3 => k_asm); (case zqk4 => k_asm); (case zqk5 => k_asm); (case zqk6 => k_is); (case zqk7 => k_is); (case zqk8 => ktr_room); (case zqk9 => first | exact BindsTo.of_eq rfl | exact binds_K (by k_in) rfl (by k_is) rfl rfl rfl); (case zqkB => exact locs rfl); (case zqcK => assumption); (case zqc2 => exact rfl); (case zqc3 => exact rfl); (case zqc4 => exact rfl); (case zqc5 => decide); k_whole; intro g' L' h' FG' F' N' B' X' T' D'; (try dsimp only); (try k_fold))
  k_with "noteFrame ref" => (k_here; k_dflt (refine' caught_fault ?zqR ?zqF ?zqK ?zqU ?zqXB ?zqTB ?zqD ?zqT0 ?zqex ?zqq ?_ ?zqc1 ?zqc2 ?zqc3 ?zqc4; (case zqR => assumption); (case zqF => assumption); (case zqK => assumption); (case zqU => assumption); (case zqXB => exact X); (case zqTB => exact T); (case zqD => assumption); (case zqT0 => exact KtsTurn.refl); (case zqex => k_is); (case zqq => kts_isx); (case zqc1 => exact rfl); (case zqc2 => exact rfl); (case zqc3 => decide); (case zqc4 => passes_own); k_whole); intro h' g' T' F' N' K' X' P' D'; (try k_sweep))
  k_with "noteFrame ref" => (k_here; k_dflt (refine' caught_fault ?zqR ?zqF ?zqK ?zqU ?zqXB ?zqTB ?zqD ?zqT0 ?zqex ?zqq ?_ ?zqc1 ?zqc2 ?zqc3 ?zqc4; (case zqR => assumption); (case zqF => assumption); (case zqK => assumption); (case zqU => assumption); (case zqXB => with_reducible assumption); (case zqTB => with_reducible assumption); (case zqD => assumption); (case zqT0 => exact KtsTurn.refl); (case zqex => k_is); (case zqq => kts_isx); (case zqc1 => exact rfl); (case zqc2 => exact rfl); (case zqc3 => decide); (case zqc4 => passes_own); k_whole); intro h' g' T' F' N' K' X' P' D'; (try k_sweep))
  k_with "eval IfExp" => ((with_reducible show wpAny _ _ (eval (Expr.IfExp _ _ _ _) _) (JI _ _) _ _); (with_reducible refine IfExp_ ?_))
  k_with "ite" => ((with_reducible show ite _ (wpAny _ _ _ (JI _ _) _ _) _); (with_reducible refine dec_split (fun hsg => ?_) (fun hsg => ?_)))
  k_with "exec Try" => (k_here; refine wpAny_Try_except ?_)
  k_with "x_auto" => (first | with_reducible assumption | (with_reducible exact Hid.out (by with_reducible assumption)) | fail "fact")
  k_with "exec If" => ((with_reducible show wpAny _ _ (exec (Stmt.If (Expr.BoolOp BoolOp.Or _ _) _ _ _) _) _ _ _); (with_reducible rename VecA _ _ _ _ _ => hA); (refine if_join ?_ (fun tk' => ?_)); (rotate_left; clear hA; rotate_right); (obtain q1 | ⟨q1, q2⟩ | ⟨q1, q2, q3⟩ := hA.c))
  k_with "exec If" => ((with_reducible show wpAny _ _ (exec (Stmt.If (Expr.BoolOp BoolOp.And _ _) _ _ _) _) _ _ _); (with_reducible rename VecA _ _ _ _ _ => hA); (refine if_joinF ?_ (fun tk' => ?_)); (rotate_left; rotate_right); (obtain q1 | ⟨q1, q2⟩ := hA.d))
  k_with "exec If" => (k_here; (with_reducible rename News _ _ _ _ => bigN); k_dflt (refine' vec_hook ?zqhv ?zqF ?zqN ?zqkx ?zqky ?zqmx ?zqmy ?zqvx ?zqvy news ?zqsb ?zqvz9 ?zqva9 ?zqvg9; (case zqhv => assumption); (case zqF => k_asm); (case zqN => k_asm); (case zqkx => exact rfl); (case zqky => exact rfl); (case zqmx => k_slotget); (case zqmy => k_slotget); (case zqsb => k_slotset); (case zqvx => assumption); (case zqvy => assumption); k_whole); (all_goals ((with_reducible rename VecLaw => hv1); clear hv1; (with_reducible rename VP _ _ => v1); clear v1; (with_reducible rename VP _ _ => v2); clear v2)); (case' zqvz9 => (intro N9 p1 p2 b1 b2 b3 b4 e1 e2 e3 e4; clear bigN)); (case' zqva9 => (intro v' N9 p1 p2 b1 b2 b3 b4 e1 hA; clear bigN; obtain ⟨f1, f2, f3, _, _, f5⟩ := id hA)); (case' zqvg9 => (intro g0' g1' c0' c1' s0' s1' N9 p1 p2 b1 b2 b3 b4 hG; clear bigN; obtain ⟨f1, f2, f3, f4, f5, f6, f7, f8, f9, f10, f11, f12, f13, f14, f15, f16, f17⟩ := hG)))
  k_with "JB" => (refine' jb_mk ?zqh; (case zqh => first | rfl | exact beq_iff_eq.mpr (by x_auto) | exact decide_eq_true (by x_auto) | exact decide_eq_false (by x_auto) | exact beq_eq_false_iff_ne.mpr (by x_auto)))
  k_with "JI" => (first | exact ji_mk (sg_pos (by assumption)) | exact ji_mk (sg_neg (by assumption) (by assumption)) | exact ji_mk (sg_zero (by assumption) (by assumption)))
  k_with "eval IfExp" => ((with_reducible show wpAny _ _ (eval (Expr.IfExp _ _ (Expr.IfExp _ _ _ _) _) (compEnvC _ _ _ _)) _ _ _); k_dflt (refine' sgn_join ?zqN ?zqm ?zqC ?zqx ?zqa ?_ ?_; (case zqN => k_asm); (case zqm => k_mem); (case zqC => assumption); (case zqx => assumption); (case zqa => k_slotget); k_whole); (rotate_left; intro t' tk'; rotate_right))
  k_with "eval Dict" => (k_here; k_dflt (refine' dictH_eval (knd := ITK _ _) ?zqhu ?zqF ?zqN ?zqa ?zqb ?zqc ?zqd ?_; (case zqhu => exact room_of (by ktr_units)); (case zqF => k_asm); (case zqN => k_asm); (case zqa => decide); (case zqb => exact rfl); (case zqc => exact List.cons_ne_nil _ _); (case zqd => decide); k_whole); intro d' h' F' N' l1; (try k_lt l1))
  k_with "MadeH" => (k_dflt (refine' ways_made ?zqF ?zqN ?zqk1 ?zqk2 ?zqk3 ?zqk4 ?zqk5 ?zqk6 ?zqk7 ?zqk8 ?zqW ?_; (case zqF => k_asm); (case zqN => k_asm); (case zqk1 => k_slotget); (case zqk2 => k_slotget); (case zqk3 => k_slotget); (case zqk4 => k_slotget); (case zqk5 => k_slotget); (case zqk6 => k_slotget); (case zqk7 => k_slotget); (case zqk8 => k_slotget); (case zqW => walk_at "WO"); k_whole); intro h' o' tk' F' N' W'; (try k_sweep))
  k_with "subscriptTail Name Name ref ref" => (k_here; k_dflt (refine' ways_item ?zqhu ?zqN ?zqW ?zqd ?zqk1 ?zqk2 ?zqk3 ?zqk4 ?zqk5 ?zqk6 ?zqk7 ?zqk8 ?zqks ?zqhv ?_; (case zqhu => ktr_units); (case zqN => k_asm); (case zqW => assumption); (case zqd => k_slotget); (case zqk1 => k_slotget); (case zqk2 => k_slotget); (case zqk3 => k_slotget); (case zqk4 => k_slotget); (case zqk5 => k_slotget); (case zqk6 => k_slotget); (case zqk7 => k_slotget); (case zqk8 => k_slotget); (case zqks => k_slotget); (case zqhv => assumption); k_whole); intro t' tk')
  intro o ta tb mean mg mb dp un gd cn cs c ccd A₀ h₀ L m s Q E S hne B F X N T hk hd hu hret
  k_with "P" => first | exact Nat.zero_lt_succ _ | (simp only [List.length_cons, List.length_nil]; decide)
  refine wpAny_call ?_
  k_dflt walk_at "ENTERV"
  walk_at "STEPS"
  all_goals (first
    | exact ccd | exact cn | exact c
    | (refine' retV hret ?q1 ?q2 ?q3; (case q1 => k_asm); (case q2 => k_asm); (case q3 => k_slotset)))
end
section
theorem fdiv_nat (a b : Nat) : ((a : Int)).fdiv (b : Int) = ((a / b : Nat) : Int) := by
  rw [Int.fdiv_eq_ediv_of_nonneg _ (by omega)]; rfl
theorem fdiv_negnat (a b : Nat) (hb : 0 < b) : (-(a : Int)).fdiv (b : Int) = -(((a + (b - 1)) / b : Nat) : Int) := by
  rw [Int.fdiv_eq_ediv_of_nonneg _ (by omega)]
  have h1 := Nat.div_add_mod (a + (b - 1)) b
  have h2 := Nat.mod_lt (a + (b - 1)) hb
  generalize (a + (b - 1)) / b = q at *
  generalize (a + (b - 1)) % b = r at *
  have hb' : (0 : Int) < b := by omega
  have e : -(a : Int) = (b - 1 - r : Int) + b * (-(q : Int)) := by
    have : ((b * q + r : Nat) : Int) = ((a + (b - 1) : Nat) : Int) := by rw [h1]
    rw [Int.natCast_add, Int.natCast_mul, Int.natCast_add, Int.natCast_sub (by omega)] at this
    rw [Int.mul_neg]
    omega
  rw [e, Int.add_mul_ediv_left _ _ (by omega), Int.ediv_eq_zero_of_lt (by omega) (by omega)]
  omega
def ser2 : Nat → Bool → Nat → Nat → Nat → Nat → Nat → Option Nat
  | 0, _, _, _, _, _, _ => none
  | f + 1, true, sq, sc, tot, t, s =>
    if Nat.beq t 0 then some tot else
    if Nat.blt t 1606938044258990275541962092341162602522202993782792835301376 && Nat.blt s 1000 then ser2 f false sq sc (Nat.add tot t) (Nat.div (Nat.div (Nat.mul t sq) sc) (Nat.mul s (Nat.add s 1))) (Nat.add s 2) else none
  | f + 1, false, sq, sc, tot, t, s =>
    if Nat.beq t 0 then some tot else
    if Nat.blt t 1606938044258990275541962092341162602522202993782792835301376 && Nat.blt s 1000 && Nat.ble t tot then ser2 f true sq sc (Nat.sub tot t) (Nat.div (Nat.add (Nat.div (Nat.add (Nat.mul t sq) (Nat.sub sc 1)) sc) (Nat.sub (Nat.mul s (Nat.add s 1)) 1)) (Nat.mul s (Nat.add s 1))) (Nat.add s 2) else none
theorem blt_iff {a b : Nat} : Nat.blt a b = true ↔ a < b := by simp [Nat.blt, Nat.ble_eq]; omega
theorem ser2_go : ∀ (f : Nat) (pos : Bool) (sq sc tot t s r : Nat), 0 < sc → 1 ≤ s → ser2 f pos sq sc tot t s = some r →
    serGo f sq sc tot (if pos then (t : Int) else -(t : Int)) s = some (r : Int) := by
  intro f
  induction f with
  | zero => intro pos sq sc tot t s r _ _ h; cases h
  | succ f ih =>
    intro pos sq sc tot t s r hsc hs h
    have hk : 0 < s * (s + 1) := Nat.mul_pos (by omega) (by omega)
    have ecast : ((s : Int) * ((s : Int) + 1)) = ((s * (s + 1) : Nat) : Int) := by push_cast; rfl
    cases pos with
    | true =>
      unfold ser2 at h
      simp only [if_true]
      unfold serGo
      split at h
      · rename_i h0
        have h0 : t = 0 := Nat.eq_of_beq_eq_true h0
        subst h0
        injection h with h; subst h; simp
      · rename_i h0
        have h0 : t ≠ 0 := fun e => h0 (by rw [e]; rfl)
        split at h
        · rename_i hb
          rw [Bool.and_eq_true, blt_iff, blt_iff] at hb
          rw [if_neg (by omega), if_pos (by refine ⟨by simpa using hb.1, by omega, by omega⟩)]
          have := ih _ _ _ _ _ _ _ hsc (by show 1 ≤ s + 2; omega) h
          simp only [Bool.false_eq_true, if_false] at this
          rw [← Int.natCast_mul, fdiv_nat, ecast, fdiv_nat]
          exact this
        · cases h
    | false =>
      unfold ser2 at h
      simp only [Bool.false_eq_true, if_false]
      unfold serGo
      split at h
      · rename_i h0
        have h0 : t = 0 := Nat.eq_of_beq_eq_true h0
        subst h0
        injection h with h; subst h; simp
      · rename_i h0
        have h0 : t ≠ 0 := fun e => h0 (by rw [e]; rfl)
        split at h
        · rename_i hb
          rw [Bool.and_eq_true, Bool.and_eq_true, blt_iff, blt_iff, Nat.ble_eq] at hb
          rw [if_neg (by omega), if_pos (by refine ⟨by simpa using hb.1.1, by omega, by omega⟩)]
          have := ih _ _ _ _ _ _ _ hsc (by show 1 ≤ s + 2; omega) h
          simp only [if_true] at this
          rw [Int.neg_mul, ← Int.natCast_mul, fdiv_negnat _ _ hsc, ecast, fdiv_negnat _ _ hk, Int.neg_neg]
          have e1 : ((tot : Int) + -(t : Int)) = ((tot - t : Nat) : Int) := by omega
          rw [e1]
          exact this
        · cases h
def csR (n d bt : Nat) : Nat := Nat.div (Nat.mul (Nat.mul n 314159265358979323846264338327950288419716939937510) (Nat.mul bt 65536)) (Nat.mul (Nat.mul 180 d) 100000000000000000000000000000000000000000000000000)
def csF (A B : Option Nat) : Option (Nat × Nat) := match A with
  | none => none
  | some C => match B with
    | none => none
    | some S => some ((C + 32768) / 65536, (S + 32768) / 65536)
theorem csF_inv {A B : Option Nat} {c s : Nat} (h : csF A B = some (c, s)) : ∃ C S, A = some C ∧ B = some S ∧ (C + 32768) / 65536 = c ∧ (S + 32768) / 65536 = s := by
  cases A with
  | none => cases h
  | some C => cases B with
    | none => cases h
    | some S =>
      have h := Option.some.inj h
      exact ⟨C, S, rfl, rfl, congrArg Prod.fst h, congrArg Prod.snd h⟩
def csG (rad sc : Nat) : Option (Nat × Nat) := csF (ser2 60 true (Nat.div (Nat.mul rad rad) sc) sc 0 sc 1) (ser2 60 true (Nat.div (Nat.mul rad rad) sc) sc 0 rad 2)
def cs (n d bt : Nat) : Option (Nat × Nat) := csG (csR n d bt) (Nat.mul bt 65536)
def stF (bt : Int) (A B : Option Int) : Option (Int × Int × Int × Int) := match A with
  | none => none
  | some C => match B with
    | none => none
    | some S => if C.natAbs < 2 ^ 200 ∧ S.natAbs < 2 ^ 200 then some (fracT (rdV C (bt * 65536) bt) bt, fracB (rdV C (bt * 65536) bt) bt, fracT (rdV S (bt * 65536) bt) bt, fracB (rdV S (bt * 65536) bt) bt) else none
def stG (rad sc bt : Int) : Option (Int × Int × Int × Int) := stF bt (serGo 60 ((rad * rad).fdiv sc) sc 0 sc 1) (serGo 60 ((rad * rad).fdiv sc) sc 0 rad 2)
theorem stR_G (n d bt : Int) : stR n d bt = stG ((n * 314159265358979323846264338327950288419716939937510 * (bt * 65536)).fdiv (180 * d * 100000000000000000000000000000000000000000000000000)) (bt * 65536) bt := rfl
theorem fracT_mul {a b : Int} (hb : 0 < b) : fracT a b * (Int.gcd a b : Int) = a := by
  unfold fracT
  rw [if_neg (by omega)]
  rw [Int.fdiv_eq_ediv_of_nonneg _ (by omega)]
  exact Int.ediv_mul_cancel (Int.gcd_dvd_left _ _)
theorem fracB_mul {a b : Int} (hb : 0 < b) : fracB a b * (Int.gcd a b : Int) = b := by
  unfold fracB
  rw [if_neg (by omega)]
  rw [Int.fdiv_eq_ediv_of_nonneg _ (by omega)]
  exact Int.ediv_mul_cancel (Int.gcd_dvd_right _ _)
theorem gcd_pos {a b : Int} (hb : 0 < b) : 0 < (Int.gcd a b : Int) := by
  have : Int.gcd a b ≠ 0 := fun h => by rw [Int.gcd_eq_zero_iff] at h; omega
  omega
theorem fracB_pos' {a b : Int} (hb : 0 < b) : 0 < fracB a b := by
  have h := fracB_mul (a := a) hb
  have g := gcd_pos (a := a) hb
  have : 0 < fracB a b * (Int.gcd a b : Int) := by rw [h]; exact hb
  exact Int.pos_of_mul_pos_left this (by omega)
theorem cross {a b : Int} (hb : 0 < b) : fracT a b * b = a * fracB a b := by
  have h1 := fracT_mul (a := a) hb
  have h2 := fracB_mul (a := a) hb
  generalize fracT a b = p at *
  generalize fracB a b = q at *
  generalize (Int.gcd a b : Int) = g at *
  rw [← h1, ← h2, Int.mul_comm q g, ← Int.mul_assoc]
theorem fdiv_unique {a b q : Int} (hb : 0 < b) (h1 : q * b ≤ a) (h2 : a < (q + 1) * b) : a.fdiv b = q := by
  rw [Int.fdiv_eq_ediv_of_nonneg _ (by omega)]
  apply Int.le_antisymm
  · have := (Int.ediv_lt_iff_lt_mul hb).mpr h2; omega
  · exact (Int.le_ediv_iff_mul_le hb).mpr h1
theorem rdV_eq (C bt : Nat) (hbt : 0 < bt) : rdV (C : Int) ((bt : Int) * 65536) bt = (((C + 32768) / 65536 : Nat) : Int) := by
  unfold rdV
  have hsc : (0 : Int) < (bt : Int) * 65536 := by omega
  have hx := cross (a := (C : Int) * bt) hsc
  have hq := fracB_pos' (a := (C : Int) * bt) hsc
  generalize fracT ((C : Int) * bt) ((bt : Int) * 65536) = p at *
  generalize fracB ((C : Int) * bt) ((bt : Int) * 65536) = q at *
  have hpq : p * 65536 = C * q := by
    have : (p * 65536) * bt = (C * q) * bt := by
      rw [Int.mul_assoc, Int.mul_comm 65536 (bt : Int), hx, Int.mul_assoc, Int.mul_assoc, Int.mul_comm (bt : Int) q]
    exact Int.eq_of_mul_eq_mul_right (by omega) this
  have hz1 := Nat.div_mul_le_self (C + 32768) 65536
  have hz2 := Nat.lt_div_mul_add (a := C + 32768) (b := 65536) (by decide)
  generalize (C + 32768) / 65536 = z at *
  apply fdiv_unique (by omega)
  · have h : (0 : Int) ≤ ((C : Int) + 32768 - z * 65536) * q := Int.mul_nonneg (by omega) (by omega)
    have e : ((C : Int) + 32768 - z * 65536) * q = C * q + 32768 * q - 65536 * (z * q) := by
      rw [Int.sub_mul, Int.add_mul, Int.mul_comm (z : Int) 65536, Int.mul_assoc]
    have e2 : (z : Int) * (2 * q) = 2 * (z * q) := by rw [Int.mul_left_comm]
    rw [e, ← hpq] at h
    rw [e2]
    omega
  · have h : (0 : Int) < ((z : Int) * 65536 + 65536 - (C + 32768)) * q := Int.mul_pos (by omega) (by omega)
    have e : ((z : Int) * 65536 + 65536 - (C + 32768)) * q = 65536 * (z * q) + 65536 * q - (C * q + 32768 * q) := by
      rw [Int.sub_mul, Int.add_mul, Int.add_mul, Int.mul_comm (z : Int) 65536, Int.mul_assoc]
    have e2 : ((z : Int) + 1) * (2 * q) = 2 * (z * q) + 2 * q := by rw [Int.add_mul, Int.mul_left_comm, Int.one_mul]
    rw [e, ← hpq] at h
    rw [e2]
    omega
theorem cast3 (n p b k : Nat) : (n : Int) * (p : Int) * ((b : Int) * (k : Int)) = ((Nat.mul (Nat.mul n p) (Nat.mul b k) : Nat) : Int) := by
  show _ = (((n * p) * (b * k) : Nat) : Int)
  rw [Int.natCast_mul, Int.natCast_mul, Int.natCast_mul]
theorem cast2 (a d p : Nat) : (a : Int) * (d : Int) * (p : Int) = ((Nat.mul (Nat.mul a d) p : Nat) : Int) := by
  show _ = (((a * d) * p : Nat) : Int)
  rw [Int.natCast_mul, Int.natCast_mul]
theorem cast1 (b k : Nat) : (b : Int) * (k : Int) = ((Nat.mul b k : Nat) : Int) := by
  show _ = ((b * k : Nat) : Int)
  rw [Int.natCast_mul]
theorem rad_eq (n d bt : Nat) : ((n : Int) * 314159265358979323846264338327950288419716939937510 * ((bt : Int) * 65536)).fdiv (180 * (d : Int) * 100000000000000000000000000000000000000000000000000) = (csR n d bt : Int) := by
  have e1 := cast3 n 314159265358979323846264338327950288419716939937510 bt 65536
  have e2 := cast2 180 d 100000000000000000000000000000000000000000000000000
  have e3 := fdiv_nat (Nat.mul (Nat.mul n 314159265358979323846264338327950288419716939937510) (Nat.mul bt 65536)) (Nat.mul (Nat.mul 180 d) 100000000000000000000000000000000000000000000000000)
  rw [← e1, ← e2] at e3
  exact e3
theorem big_of {C c bt : Nat} (h : (C + 32768) / 65536 = c) (hc : c ≤ bt) (hb : bt < 2 ^ 100) : (C : Int).natAbs < 2 ^ 200 := by
  have h2 := Nat.lt_div_mul_add (a := C + 32768) (b := 65536) (by decide)
  rw [h] at h2
  rw [Int.natAbs_natCast]
  have : (2 : Nat) ^ 100 * 65536 + 65536 < 2 ^ 200 := by decide
  omega
theorem st_fin {C S c s bt : Nat} (hbt : 0 < bt) (hb : bt < 2 ^ 100) (hc : (C + 32768) / 65536 = c) (hs : (S + 32768) / 65536 = s) (c1 : c ≤ bt) (s1 : s ≤ bt) :
    (if (C : Int).natAbs < 2 ^ 200 ∧ (S : Int).natAbs < 2 ^ 200 then some (fracT (rdV C ((bt : Int) * 65536) bt) bt, fracB (rdV C ((bt : Int) * 65536) bt) bt, fracT (rdV S ((bt : Int) * 65536) bt) bt, fracB (rdV S ((bt : Int) * 65536) bt) bt) else none) =
    some (fracT c bt, fracB c bt, fracT s bt, fracB s bt) := by
  rw [if_pos ⟨big_of hc c1 hb, big_of hs s1 hb⟩, rdV_eq _ _ hbt, rdV_eq _ _ hbt, hc, hs]
theorem stG_cs {rad sc : Nat} {bt c s : Nat} (hsc : 0 < sc) (esc : (sc : Int) = (bt : Int) * 65536) (hbt : 0 < bt) (hb : bt < 2 ^ 100) (h : csG rad sc = some (c, s)) (c1 : c ≤ bt) (s1 : s ≤ bt) : stG rad sc bt = some (fracT c bt, fracB c bt, fracT s bt, fracB s bt) := by
  obtain ⟨C, S, hA, hB, hc, hs⟩ := csF_inv h
  have h1 := ser2_go _ _ _ _ _ _ _ _ hsc (Nat.le_refl 1) hA
  have h2 := ser2_go _ _ _ _ _ _ _ _ hsc (by decide : 1 ≤ 2) hB
  rw [if_pos rfl] at h1 h2
  have esq : ((rad : Int) * (rad : Int)).fdiv (sc : Int) = ((Nat.div (Nat.mul rad rad) sc : Nat) : Int) := by
    rw [← Int.natCast_mul, fdiv_nat]; rfl
  have h1' : serGo 60 (((rad : Int) * (rad : Int)).fdiv (sc : Int)) (sc : Int) 0 (sc : Int) 1 = some (C : Int) := by rw [esq]; exact h1
  have h2' : serGo 60 (((rad : Int) * (rad : Int)).fdiv (sc : Int)) (sc : Int) 0 (rad : Int) 2 = some (S : Int) := by rw [esq]; exact h2
  unfold stG
  rw [h1', h2']
  exact st_fin hbt hb hc hs c1 s1
theorem stR_cs {n d bt c s : Nat} (hbt : 0 < bt) (hb : bt < 2 ^ 100) (h : cs n d bt = some (c, s)) (c1 : c ≤ bt) (s1 : s ≤ bt) : stR n d bt = some (fracT c bt, fracB c bt, fracT s bt, fracB s bt) := by
  have esc : ((Nat.mul bt 65536 : Nat) : Int) = (bt : Int) * 65536 := (cast1 bt 65536).symm
  rw [stR_G, rad_eq, ← esc]
  exact stG_cs (Nat.mul_pos hbt (by decide)) esc hbt hb h c1 s1
theorem csR_scale (k n d bt : Nat) (hk : 0 < k) : csR (k * n) (k * d) bt = csR n d bt := by
  unfold csR
  show (k * n * _ * (bt * 65536)) / (180 * (k * d) * _) = (n * _ * (bt * 65536)) / (180 * d * _)
  generalize 314159265358979323846264338327950288419716939937510 = P
  generalize 100000000000000000000000000000000000000000000000000 = B
  have e1 : k * n * P * (bt * 65536) = k * (n * P * (bt * 65536)) := by simp only [Nat.mul_assoc]
  have e2 : 180 * (k * d) * B = k * (180 * d * B) := by rw [Nat.mul_left_comm, Nat.mul_assoc]
  rw [e1, e2, Nat.mul_div_mul_left _ _ hk]
theorem cs_scale (k n d bt : Nat) (hk : 0 < k) : cs (k * n) (k * d) bt = cs n d bt := by
  unfold cs
  rw [csR_scale k n d bt hk]
def csQ (r d bt : Nat) : Option (Nat × Nat) :=
  if Nat.blt r (Nat.mul 45 d) then cs r d bt else if Nat.beq r (Nat.mul 45 d) then (match cs r d bt with | none => none | some x => some (x.1, x.1)) else (match cs (Nat.sub (Nat.mul 90 d) r) d bt with | none => none | some x => some (x.2, x.1))
theorem csQ_scale (k r d bt : Nat) (hk : 0 < k) : csQ (k * r) (k * d) bt = csQ r d bt := by
  unfold csQ
  have e45 : Nat.mul 45 (k * d) = k * (45 * d) := by show 45 * (k * d) = _; rw [Nat.mul_left_comm]
  have e90 : Nat.sub (Nat.mul 90 (k * d)) (k * r) = k * (Nat.sub (Nat.mul 90 d) r) := by
    show 90 * (k * d) - k * r = k * (90 * d - r)
    rw [Nat.mul_left_comm, Nat.mul_sub]
  rw [e45, e90, cs_scale k _ _ _ hk, cs_scale k _ _ _ hk]
  have h1 : Nat.blt (k * r) (k * (45 * d)) = Nat.blt r (Nat.mul 45 d) := by
    apply Bool.eq_iff_iff.mpr
    rw [blt_iff, blt_iff]
    show _ ↔ r < 45 * d
    exact Nat.mul_lt_mul_left hk
  have h2 : Nat.beq (k * r) (k * (45 * d)) = Nat.beq r (Nat.mul 45 d) := by
    apply Bool.eq_iff_iff.mpr
    rw [Nat.beq_eq, Nat.beq_eq]
    show _ ↔ r = 45 * d
    exact Nat.mul_left_cancel_iff hk
  rw [h1, h2]
theorem frac_id {a b : Int} (hb : 0 < b) (h : Int.gcd a b = 1) : fracT a b = a ∧ fracB a b = b := by
  have h1 := fracT_mul (a := a) hb
  have h2 := fracB_mul (a := a) hb
  rw [h] at h1 h2
  constructor <;> omega
theorem frac_fdiv {a b : Int} (hb : 0 < b) : (fracT a b).fdiv (fracB a b) = a.fdiv b := by
  have h1 := fracT_mul (a := a) hb
  have h2 := fracB_mul (a := a) hb
  have hg := gcd_pos (a := a) hb
  have hq := fracB_pos' (a := a) hb
  have e1 : a.fdiv b * b ≤ a := by rw [Int.fdiv_eq_ediv_of_nonneg _ (by omega)]; exact Int.ediv_mul_le _ (by omega)
  have e2 : a < (a.fdiv b + 1) * b := by
    rw [Int.fdiv_eq_ediv_of_nonneg _ (by omega)]; exact Int.lt_ediv_add_one_mul_self a hb
  generalize a.fdiv b = z at *
  generalize fracT a b = p at *
  generalize fracB a b = q at *
  generalize (Int.gcd a b : Int) = g at *
  apply fdiv_unique hq
  · apply Int.le_of_mul_le_mul_right _ hg
    rw [Int.mul_assoc, h2, h1]; exact e1
  · apply Int.lt_of_mul_lt_mul_right _ (by omega : 0 ≤ g)
    rw [Int.mul_assoc, h2, h1]; exact e2
theorem gcd_sub (n d k : Int) : Int.gcd (n - k * d) d = Int.gcd n d := by
  have := Int.gcd_sub_mul_right_left d n k
  first | exact this | (rw [Int.gcd_comm, Int.gcd_comm n]; simpa using this)
theorem gcd_sub90 {n d : Int} (k : Int) (h : Int.gcd n d = 1) : Int.gcd (k * d - n) d = 1 := by
  have e : k * d - n = -(n - k * d) := by omega
  rw [e]
  have : Int.gcd (-(n - k * d)) d = Int.gcd (n - k * d) d := by simp only [Int.gcd, Int.natAbs_neg]
  rw [this, gcd_sub, h]
/-- the two fractions of cosine and sine over the bottom -/
def frs (c s bt : Nat) : Int × Int × Int × Int := (fracT c bt, fracB c bt, fracT s bt, fracB s bt)
theorem qtR_csQ {r d bt c s : Nat} (hd : 0 < d) (hbt : 0 < bt) (hb : bt < 2 ^ 100) (hg : Int.gcd (r : Int) (d : Int) = 1) (hr : r ≤ 90 * d) (h : csQ r d bt = some (c, s)) (hall : ∀ r', r' ≤ 45 * d → ∀ c' s', cs r' d bt = some (c', s') → c' ≤ bt ∧ s' ≤ bt) :
    qtR r d bt = some (frs c s bt) := by
  unfold csQ at h
  unfold qtR
  split at h
  · rename_i h1
    rw [blt_iff] at h1
    have h1 : r < 45 * d := h1
    rw [if_pos (by omega)]
    have := hall r (by omega) c s h
    exact stR_cs hbt hb h this.1 this.2
  · rename_i h1
    rw [blt_iff] at h1
    have h1 : ¬ r < 45 * d := h1
    rw [if_neg (by omega)]
    split at h
    · rename_i h2
      rw [Nat.beq_eq] at h2
      have h2 : r = 45 * d := h2
      rw [if_pos (by omega)]
      cases hx : cs r d bt with
      | none => rw [hx] at h; cases h
      | some x =>
        rw [hx] at h
        obtain ⟨c', s'⟩ := x
        have h := Option.some.inj h
        have e1 : c' = c := congrArg Prod.fst h
        have e2 : c' = s := congrArg Prod.snd h
        have := hall r (by omega) c' s' hx
        rw [stR_cs hbt hb hx this.1 this.2]
        subst e1; subst e2
        rfl
    · rename_i h2
      rw [Nat.beq_eq] at h2
      have h2 : ¬ r = 45 * d := h2
      rw [if_neg (by omega)]
      have e90 : (90 * (d : Int) - (r : Int)) = ((90 * d - r : Nat) : Int) := by omega
      have hid := frac_id (a := 90 * (d : Int) - (r : Int)) (b := (d : Int)) (by omega) (gcd_sub90 90 hg)
      rw [hid.1, hid.2, e90]
      cases hx : cs (90 * d - r) d bt with
      | none =>
        have hx' : cs (Nat.sub (Nat.mul 90 d) r) d bt = none := hx
        rw [hx'] at h; cases h
      | some x =>
        have hx' : cs (Nat.sub (Nat.mul 90 d) r) d bt = some x := hx
        rw [hx'] at h
        obtain ⟨c', s'⟩ := x
        have h := Option.some.inj h
        have e1 : s' = c := congrArg Prod.fst h
        have e2 : c' = s := congrArg Prod.snd h
        have := hall (90 * d - r) (by omega) c' s' hx
        rw [stR_cs hbt hb hx this.1 this.2]
        subst e1; subst e2
        rfl
def rot4 (v : Int) (x : Int × Int × Int × Int) : Int × Int × Int × Int := rotN v x.1 x.2.1 x.2.2.1 x.2.2.2
theorem frs_zero {bt : Nat} (h : 0 < bt) : frs bt 0 bt = (1, 1, 0, 1) := by
  have hp : (0 : Int) < bt := by omega
  have h1 := fracT_mul (a := (bt : Int)) hp
  have h2 := fracB_mul (a := (bt : Int)) hp
  have h3 := fracT_mul (a := (0 : Int)) hp
  have h4 := fracB_mul (a := (0 : Int)) hp
  have g1 : (Int.gcd (bt : Int) (bt : Int) : Int) = bt := by simp
  have g2 : (Int.gcd 0 (bt : Int) : Int) = bt := by simp
  rw [g1] at h1 h2
  rw [g2] at h3 h4
  have nz : (bt : Int) ≠ 0 := by omega
  have e1 : fracT (bt : Int) bt = 1 := Int.eq_of_mul_eq_mul_right nz (by rw [h1, Int.one_mul])
  have e2 : fracB (bt : Int) bt = 1 := Int.eq_of_mul_eq_mul_right nz (by rw [h2, Int.one_mul])
  have e3 : fracT (0 : Int) bt = 0 := Int.eq_of_mul_eq_mul_right nz (by rw [h3, Int.zero_mul])
  have e4 : fracB (0 : Int) bt = 1 := Int.eq_of_mul_eq_mul_right nz (by rw [h4, Int.one_mul])
  show (fracT (bt : Int) bt, fracB (bt : Int) bt, fracT (0 : Int) bt, fracB (0 : Int) bt) = _
  rw [e1, e2, e3, e4]
theorem toR_csQ {n q : Int} {r d bt c s : Nat} (hd : 0 < d) (hbt : 0 < bt) (hb : bt < 2 ^ 100) (hn : n = 90 * q * d + r) (hr : r < 90 * d) (hg : Int.gcd n (d : Int) = 1) (hq : q.natAbs < 2 ^ 100) (hdb : 90 * d < 2 ^ 100)
    (h : csQ r d bt = some (c, s)) (h0 : r = 0 → c = bt ∧ s = 0) (hall : ∀ r', r' ≤ 45 * d → ∀ c' s', cs r' d bt = some (c', s') → c' ≤ bt ∧ s' ≤ bt) :
    toR n d bt = some (rot4 (q.fmod 4) (frs c s bt)) := by
  have hdi : (0 : Int) < d := by omega
  have hq1 : (fracT n ((d : Int) * 90)).fdiv (fracB n ((d : Int) * 90)) = q := by
    rw [frac_fdiv (by omega)]
    apply fdiv_unique (by omega)
    · have : q * ((d : Int) * 90) = 90 * q * d := by rw [Int.mul_comm 90 q, Int.mul_assoc, Int.mul_comm (d : Int) 90]
      omega
    · have : (q + 1) * ((d : Int) * 90) = 90 * q * d + 90 * d := by rw [Int.add_mul, Int.mul_comm 90 q, Int.mul_assoc, Int.mul_comm (d : Int) 90]; omega
      omega
  have hg2 : Int.gcd (r : Int) (d : Int) = 1 := by
    have e : (r : Int) = n - (90 * q) * d := by omega
    rw [e, gcd_sub, hg]
  have er : n * 1 - 90 * q * (d : Int) = (r : Int) := by omega
  have ed : (d : Int) * 1 = d := by omega
  have hid := frac_id hdi hg2
  unfold toR
  simp only [hq1, er, ed, hid.1, hid.2]
  rw [if_pos ⟨hq, by omega, by omega⟩]
  by_cases hz : r = 0
  · rw [if_pos (by omega)]
    obtain ⟨e1, e2⟩ := h0 hz
    rw [e1, e2, frs_zero hbt]
    rfl
  · rw [if_neg (by omega), qtR_csQ hd hbt hb hg2 (by omega) h hall]
    rfl
theorem csQ_lt {r d bt : Nat} (h : r < 45 * d) : csQ r d bt = cs r d bt := by
  unfold csQ
  rw [if_pos (blt_iff.mpr (show r < Nat.mul 45 d from h))]
theorem csQ_eq {r d bt : Nat} (h : r = 45 * d) : csQ r d bt = (match cs r d bt with | none => none | some x => some (x.1, x.1)) := by
  unfold csQ
  rw [if_neg (by rw [blt_iff]; show ¬ r < 45 * d; omega), if_pos (by rw [Nat.beq_eq]; exact h)]
  all_goals rfl
theorem csQ_gt {r d bt : Nat} (h : 45 * d < r) : csQ r d bt = (match cs (90 * d - r) d bt with | none => none | some x => some (x.2, x.1)) := by
  unfold csQ
  rw [if_neg (by rw [blt_iff]; show ¬ r < 45 * d; omega), if_neg (by rw [Nat.beq_eq]; show ¬ r = 45 * d; omega)]
  all_goals rfl
theorem csQ_swap {r d bt c s : Nat} (hr : r ≤ 90 * d) (h : csQ r d bt = some (c, s)) : csQ (90 * d - r) d bt = some (s, c) := by
  by_cases h1 : r < 45 * d
  · rw [csQ_lt h1] at h
    rw [csQ_gt (by omega), show 90 * d - (90 * d - r) = r by omega, h]
  · by_cases h2 : r = 45 * d
    · have e : 90 * d - r = r := by omega
      rw [e]
      rw [csQ_eq h2] at h
      rw [csQ_eq h2]
      cases hx : cs r d bt with
      | none => rw [hx] at h; cases h
      | some x =>
        rw [hx] at h
        have h := Option.some.inj h
        have e1 : x.1 = c := congrArg Prod.fst h
        have e2 : x.1 = s := congrArg Prod.snd h
        show some (x.1, x.1) = _
        rw [← e1, ← e2, e1]
    · rw [csQ_gt (by omega)] at h
      rw [csQ_lt (by omega)]
      cases hx : cs (90 * d - r) d bt with
      | none => rw [hx] at h; cases h
      | some x =>
        rw [hx] at h
        have h := Option.some.inj h
        have e1 : x.2 = c := congrArg Prod.fst h
        have e2 : x.1 = s := congrArg Prod.snd h
        rw [← e1, ← e2]
theorem fmod4_period (q : Int) : (q + 4).fmod 4 = q.fmod 4 := by
  rw [Int.fmod_eq_emod_of_nonneg _ (by decide), Int.fmod_eq_emod_of_nonneg _ (by decide)]; omega
theorem fmod4_cases (q : Int) : q.fmod 4 = 0 ∨ q.fmod 4 = 1 ∨ q.fmod 4 = 2 ∨ q.fmod 4 = 3 := by
  rw [Int.fmod_eq_emod_of_nonneg _ (by decide)]; omega
theorem fmod4_succ (q : Int) : (q + 1).fmod 4 = if q.fmod 4 = 3 then 0 else q.fmod 4 + 1 := by
  rw [Int.fmod_eq_emod_of_nonneg _ (by decide), Int.fmod_eq_emod_of_nonneg _ (by decide)]; split <;> omega
theorem fmod4_neg (q : Int) : (-q).fmod 4 = if q.fmod 4 = 0 then 0 else 4 - q.fmod 4 := by
  rw [Int.fmod_eq_emod_of_nonneg _ (by decide), Int.fmod_eq_emod_of_nonneg _ (by decide)]; split <;> omega
theorem fmod4_negsucc (q : Int) : (-q - 1).fmod 4 = 3 - q.fmod 4 := by
  rw [Int.fmod_eq_emod_of_nonneg _ (by decide), Int.fmod_eq_emod_of_nonneg _ (by decide)]; omega
/-- a quarter more: (c, s) to (-s, c) -/
theorem rot4_succ (q : Int) (x : Int × Int × Int × Int) (c0 c1 s0 s1 : Int) (h : rot4 (q.fmod 4) x = (c0, c1, s0, s1)) : rot4 ((q + 1).fmod 4) x = (-s0, s1, c0, c1) := by
  rw [fmod4_succ]
  obtain ⟨a, b, c, d⟩ := x
  rcases fmod4_cases q with e | e | e | e <;> rw [e] at h ⊢ <;> simp [rot4, rotN] at h ⊢ <;> obtain ⟨h1, h2, h3, h4⟩ := h <;> subst h1 <;> subst h2 <;> subst h3 <;> subst h4 <;> simp
theorem rot4_negsucc (q : Int) (a b c d : Int) (c0 c1 s0 s1 : Int) (h : rot4 (q.fmod 4) (a, b, c, d) = (c0, c1, s0, s1)) : rot4 ((-q - 1).fmod 4) (c, d, a, b) = (c0, c1, -s0, s1) := by
  rw [fmod4_negsucc]
  rcases fmod4_cases q with e | e | e | e <;> rw [e] at h ⊢ <;> simp [rot4, rotN] at h ⊢ <;> obtain ⟨h1, h2, h3, h4⟩ := h <;> subst h1 <;> subst h2 <;> subst h3 <;> subst h4 <;> simp
theorem rot4_neg0 (q : Int) (c0 c1 s0 s1 : Int) (h : rot4 (q.fmod 4) (1, 1, 0, 1) = (c0, c1, s0, s1)) : rot4 ((-q).fmod 4) (1, 1, 0, 1) = (c0, c1, -s0, s1) := by
  rw [fmod4_neg]
  rcases fmod4_cases q with e | e | e | e <;> rw [e] at h ⊢ <;> simp [rot4, rotN] at h ⊢ <;> obtain ⟨h1, h2, h3, h4⟩ := h <;> subst h1 <;> subst h2 <;> subst h3 <;> subst h4 <;> simp
theorem gcd_add_mul {n d : Int} (k : Int) (h : Int.gcd n d = 1) : Int.gcd (n + k * d) d = 1 := by
  have e : n + k * d = n - (-k) * d := by rw [Int.neg_mul]; omega
  rw [e, gcd_sub, h]
theorem gcd_neg1 {n d : Int} (h : Int.gcd n d = 1) : Int.gcd (-n) d = 1 := by
  have : Int.gcd (-n) d = Int.gcd n d := by simp only [Int.gcd, Int.natAbs_neg]
  rw [this, h]
theorem nq_add {q k : Int} (hq : q.natAbs < 2 ^ 90) (hk : k.natAbs < 2 ^ 90 := by decide) : (q + k).natAbs < 2 ^ 100 := Nat.lt_of_lt_of_le (Nat.lt_of_le_of_lt (Int.natAbs_add_le q k) (Nat.add_lt_add hq hk)) (by decide)
theorem nq_up {q : Int} (hq : q.natAbs < 2 ^ 90) : q.natAbs < 2 ^ 100 := Nat.lt_trans hq (by decide)
theorem nq_neg {q : Int} (hq : q.natAbs < 2 ^ 90) : (-q).natAbs < 2 ^ 90 := by rw [Int.natAbs_neg]; exact hq
theorem turns {n q : Int} {r d bt c s : Nat} (hd : 0 < d) (hbt : 0 < bt) (hb : bt < 2 ^ 100) (hn : n = 90 * q * d + r) (hr : r < 90 * d) (hg : Int.gcd n (d : Int) = 1) (hq : q.natAbs < 2 ^ 90) (hdb : 90 * d < 2 ^ 100)
    (h : csQ r d bt = some (c, s)) (h0 : r = 0 → c = bt ∧ s = 0) (hall : ∀ r', r' ≤ 45 * d → ∀ c' s', cs r' d bt = some (c', s') → c' ≤ bt ∧ s' ≤ bt)
    {c0 c1 s0 s1 : Int} (hx : rot4 (q.fmod 4) (frs c s bt) = (c0, c1, s0, s1)) :
    toR n d bt = some (c0, c1, s0, s1) ∧ toR (n + 360 * d) d bt = some (c0, c1, s0, s1) ∧ toR (n + 90 * d) d bt = some (-s0, s1, c0, c1) ∧ toR (-n) d bt = some (c0, c1, -s0, s1) ∧ toR (-n + 90 * d) d bt = some (s0, s1, c0, c1) := by
  refine ⟨?_, ?_, ?_, ?_⟩
  · rw [toR_csQ hd hbt hb hn hr hg (nq_up hq) hdb h h0 hall, hx]
  · rw [toR_csQ (q := q + 4) hd hbt hb (by rw [hn, Int.mul_add, Int.add_mul]; omega) hr (gcd_add_mul 360 hg) (nq_add hq) hdb h h0 hall, fmod4_period, hx]
  · rw [toR_csQ (q := q + 1) hd hbt hb (by rw [hn, Int.mul_add, Int.add_mul]; omega) hr (gcd_add_mul 90 hg) (nq_add hq) hdb h h0 hall, rot4_succ _ _ _ _ _ _ hx]
  · by_cases hz : r = 0
    · obtain ⟨e1, e2⟩ := h0 hz
      have hx' := hx
      rw [e1, e2, frs_zero hbt] at hx'
      have hy := rot4_neg0 q c0 c1 s0 s1 hx'
      have hw : rot4 ((-q).fmod 4) (frs c s bt) = (c0, c1, -s0, s1) := by rw [e1, e2, frs_zero hbt]; exact hy
      constructor
      · rw [toR_csQ (q := -q) hd hbt hb (by rw [hn, hz, Int.mul_neg, Int.neg_mul]; omega) hr (gcd_neg1 hg) (nq_up (nq_neg hq)) hdb h h0 hall, hw]
      · rw [toR_csQ (q := -q + 1) hd hbt hb (by rw [hn, hz, Int.mul_add, Int.mul_neg, Int.add_mul, Int.neg_mul]; omega) hr (gcd_add_mul 90 (gcd_neg1 hg)) (nq_add (nq_neg hq)) hdb h h0 hall, rot4_succ _ _ _ _ _ _ hw, Int.neg_neg]
    · have hs := csQ_swap (by omega) h
      have hw : rot4 ((-q - 1).fmod 4) (frs s c bt) = (c0, c1, -s0, s1) := rot4_negsucc q _ _ _ _ _ _ _ _ hx
      constructor
      · rw [toR_csQ (q := -q - 1) hd hbt hb (by rw [hn, Int.mul_sub, Int.mul_neg, Int.sub_mul, Int.neg_mul]; omega) (by omega) (gcd_neg1 hg) (nq_add (k := -1) (nq_neg hq)) hdb hs (by omega) hall, hw]
      · rw [toR_csQ (q := -q - 1 + 1) hd hbt hb (by rw [hn, Int.mul_add, Int.mul_sub, Int.mul_neg, Int.add_mul, Int.sub_mul, Int.neg_mul]; omega) (by omega) (gcd_add_mul 90 (gcd_neg1 hg)) (by rw [Int.sub_add_cancel]; exact nq_up (nq_neg hq)) hdb hs (by omega) hall, rot4_succ _ _ _ _ _ _ hw, Int.neg_neg]
def upTo (f : Nat → Bool) : Nat → Bool
  | 0 => f 0
  | n + 1 => and (f (n + 1)) (upTo f n)
theorem upTo_spec {f : Nat → Bool} {n : Nat} (h : upTo f n = true) : ∀ k, k ≤ n → f k = true := by
  induction n with
  | zero => intro k hk; rw [show k = 0 by omega]; exact h
  | succ n ih =>
    intro k hk
    have h' : and (f (n + 1)) (upTo f n) = true := h
    rw [Bool.and_eq_true] at h'
    by_cases e : k = n + 1
    · rw [e]; exact h'.1
    · exact ih h'.2 k (by omega)
/-- |a - b| ≤ e over Nat -/
def nearN (a b e : Nat) : Bool := and (Nat.ble a (Nat.add b e)) (Nat.ble b (Nat.add a e))
def smallN (bt : Nat) : Option (Nat × Nat) → Bool
  | none => true
  | some x => and (Nat.ble x.1 bt) (Nat.ble x.2 bt)
def sizeN (bt c s : Nat) : Bool := nearN (Nat.add (Nat.mul c c) (Nat.mul s s)) (Nat.mul bt bt) (Nat.mul 2 bt)
def twiceN (bt c s : Nat) : Option (Nat × Nat) → Bool
  | none => false
  | some y => and (nearN (Nat.mul y.2 bt) (Nat.mul 2 (Nat.mul c s)) (Nat.mul 2 bt)) (nearN (Nat.add (Nat.mul y.1 bt) (Nat.mul s s)) (Nat.mul c c) (Nat.mul 2 bt))
def rowN (r d bt : Nat) : Option (Nat × Nat) → Bool
  | none => false
  | some x => and (and (Nat.ble x.1 bt) (Nat.ble x.2 bt)) (and (sizeN bt x.1 x.2) (twiceN bt x.1 x.2 (csQ (Nat.mul 2 r) d bt)))
def chk (d bt r : Nat) : Bool := and (smallN bt (cs r d bt)) (rowN r d bt (csQ r d bt))
theorem tab256_1 : upTo (chk 1 256) 45 = true := by decide +kernel
theorem tab256_2 : upTo (chk 2 256) 90 = true := by decide +kernel
theorem tab256_3 : upTo (chk 3 256) 135 = true := by decide +kernel
theorem tab256_5 : upTo (chk 5 256) 225 = true := by decide +kernel
theorem tab256_7 : upTo (chk 7 256) 315 = true := by decide +kernel
theorem tab256_10 : upTo (chk 10 256) 450 = true := by decide +kernel
theorem tab4096_1 : upTo (chk 1 4096) 45 = true := by decide +kernel
theorem tab4096_2 : upTo (chk 2 4096) 90 = true := by decide +kernel
theorem tab4096_3 : upTo (chk 3 4096) 135 = true := by decide +kernel
theorem tab4096_5 : upTo (chk 5 4096) 225 = true := by decide +kernel
theorem tab4096_7 : upTo (chk 7 4096) 315 = true := by decide +kernel
theorem tab4096_10 : upTo (chk 10 4096) 450 = true := by decide +kernel
theorem tab65536_1 : upTo (chk 1 65536) 45 = true := by decide +kernel
theorem tab65536_2 : upTo (chk 2 65536) 90 = true := by decide +kernel
theorem tab65536_3 : upTo (chk 3 65536) 135 = true := by decide +kernel
theorem tab65536_5 : upTo (chk 5 65536) 225 = true := by decide +kernel
theorem tab65536_7 : upTo (chk 7 65536) 315 = true := by decide +kernel
theorem tab65536_10 : upTo (chk 10 65536) 450 = true := by decide +kernel
theorem tab1000_1 : upTo (chk 1 1000) 45 = true := by decide +kernel
theorem tab1000_2 : upTo (chk 2 1000) 90 = true := by decide +kernel
theorem tab1000_3 : upTo (chk 3 1000) 135 = true := by decide +kernel
theorem tab1000_5 : upTo (chk 5 1000) 225 = true := by decide +kernel
theorem tab1000_7 : upTo (chk 7 1000) 315 = true := by decide +kernel
theorem tab1000_10 : upTo (chk 10 1000) 450 = true := by decide +kernel
theorem nearN_iff {a b e : Nat} : nearN a b e = true ↔ a ≤ b + e ∧ b ≤ a + e := by
  unfold nearN
  rw [Bool.and_eq_true, Nat.ble_eq, Nat.ble_eq]
  exact Iff.rfl
theorem chk_spec {d bt r : Nat} (h : chk d bt r = true) : (∀ c' s', cs r d bt = some (c', s') → c' ≤ bt ∧ s' ≤ bt) ∧
    ∃ c s w h, csQ r d bt = some (c, s) ∧ csQ (2 * r) d bt = some (w, h) ∧ c ≤ bt ∧ s ≤ bt ∧ sizeN bt c s = true ∧ twiceN bt c s (some (w, h)) = true := by
  unfold chk at h
  rw [Bool.and_eq_true] at h
  obtain ⟨h1, h2⟩ := h
  constructor
  · intro c' s' hc
    rw [hc] at h1
    have h1 : and (Nat.ble c' bt) (Nat.ble s' bt) = true := h1
    rw [Bool.and_eq_true, Nat.ble_eq, Nat.ble_eq] at h1
    exact h1
  · cases hq : csQ r d bt with
    | none => rw [hq] at h2; cases h2
    | some x =>
      obtain ⟨c, s⟩ := x
      rw [hq] at h2
      have h2 : and (and (Nat.ble c bt) (Nat.ble s bt)) (and (sizeN bt c s) (twiceN bt c s (csQ (Nat.mul 2 r) d bt))) = true := h2
      rw [Bool.and_eq_true, Bool.and_eq_true, Bool.and_eq_true, Nat.ble_eq, Nat.ble_eq] at h2
      cases hw : csQ (Nat.mul 2 r) d bt with
      | none => rw [hw] at h2; have := h2.2.2; cases this
      | some y =>
        rw [hw] at h2
        exact ⟨c, s, y.1, y.2, rfl, rfl, h2.1.1, h2.1.2, h2.2.1, h2.2.2⟩
theorem natAbs_le_of {a b : Int} (h1 : a ≤ b) (h2 : -a ≤ b) : ((a.natAbs : Nat) : Int) ≤ b := by omega
/-- |u| * bt <= v out of the same after a scaling by m > 0 -/
theorem near_scale {u v bt m U V : Int} (hm : 0 < m) (hU : u * bt * m = U) (hV : v * m = V) (h1 : U ≤ V) (h2 : -U ≤ V) : ((u.natAbs : Nat) : Int) * bt ≤ v ∨ bt < 0 := by
  by_cases hb : bt < 0
  · exact Or.inr hb
  · left
    have a1 : u * bt ≤ v := Int.le_of_mul_le_mul_right (by rw [hU, hV]; exact h1) hm
    have a2 : -(u * bt) ≤ v := Int.le_of_mul_le_mul_right (by rw [Int.neg_mul, hU, hV]; exact h2) hm
    by_cases hu : 0 ≤ u
    · rw [show ((u.natAbs : Nat) : Int) = u by omega]; exact a1
    · rw [show ((u.natAbs : Nat) : Int) = -u by omega, Int.neg_mul]; exact a2
theorem size_frac {c0 c1 s0 s1 g k C B S : Int} (hc : c0 * g = C) (hc1 : c1 * g = B) (hs : s0 * k = S) (hs1 : s1 * k = B) (hg : 0 < g) (hk : 0 < k) (hB : 0 < B) (h1 : C * C + S * S ≤ B * B + 2 * B) (h2 : B * B ≤ C * C + S * S + 2 * B) :
    (((((c0 * c0) * (s1 * s1) + (s0 * s0) * (c1 * c1)) * 1 - 1 * ((c1 * c1) * (s1 * s1))).natAbs : Nat) : Int) * B ≤ 2 * ((c1 * c1) * (s1 * s1) * 1) := by
  have hB3 : 0 ≤ B * B * B := Int.mul_nonneg (Int.mul_nonneg (by omega) (by omega)) (by omega)
  have e1 : ((((c0 * c0) * (s1 * s1) + (s0 * s0) * (c1 * c1)) * 1 - 1 * ((c1 * c1) * (s1 * s1)))) * B * (g * g * (k * k)) = (C * C + S * S - B * B) * (B * B * B) := by subst hc; subst hs; grind
  have e2 : 2 * ((c1 * c1) * (s1 * s1) * 1) * (g * g * (k * k)) = 2 * B * (B * B * B) := by grind
  have q1 : (C * C + S * S - B * B) * (B * B * B) ≤ 2 * B * (B * B * B) := Int.mul_le_mul_of_nonneg_right (by omega) hB3
  have q2 : -((C * C + S * S - B * B) * (B * B * B)) ≤ 2 * B * (B * B * B) := by
    rw [← Int.neg_mul]; exact Int.mul_le_mul_of_nonneg_right (by omega) hB3
  rcases near_scale (Int.mul_pos (Int.mul_pos hg hg) (Int.mul_pos hk hk)) e1 e2 q1 q2 with h | h
  · exact h
  · omega
theorem twice_frac1 {c0 c1 s0 s1 h0 h1 g k m C B S H : Int} (hc : c0 * g = C) (hc1 : c1 * g = B) (hs : s0 * k = S) (hs1 : s1 * k = B) (hh : h0 * m = H) (hh1 : h1 * m = B) (hg : 0 < g) (hk : 0 < k) (hm : 0 < m) (hB : 0 < B) (q1 : H * B ≤ 2 * (C * S) + 2 * B) (q2 : 2 * (C * S) ≤ H * B + 2 * B) :
    (((h0 * (c1 * s1) - 2 * c0 * s0 * h1).natAbs : Nat) : Int) * B ≤ 2 * (h1 * (c1 * s1)) := by
  have hB2 : 0 ≤ B * B := Int.mul_nonneg (by omega) (by omega)
  have e1 : (h0 * (c1 * s1) - 2 * c0 * s0 * h1) * B * (g * k * m) = (H * B - 2 * (C * S)) * (B * B) := by subst hc; subst hs; subst hh; grind
  have e2 : 2 * (h1 * (c1 * s1)) * (g * k * m) = 2 * B * (B * B) := by grind
  have p1 : (H * B - 2 * (C * S)) * (B * B) ≤ 2 * B * (B * B) := Int.mul_le_mul_of_nonneg_right (by omega) hB2
  have p2 : -((H * B - 2 * (C * S)) * (B * B)) ≤ 2 * B * (B * B) := by
    rw [← Int.neg_mul]; exact Int.mul_le_mul_of_nonneg_right (by omega) hB2
  rcases near_scale (Int.mul_pos (Int.mul_pos hg hk) hm) e1 e2 p1 p2 with h | h
  · exact h
  · omega
theorem twice_frac2 {c0 c1 s0 s1 w0 w1 g k l C B S W : Int} (hc : c0 * g = C) (hc1 : c1 * g = B) (hs : s0 * k = S) (hs1 : s1 * k = B) (hw : w0 * l = W) (hw1 : w1 * l = B) (hg : 0 < g) (hk : 0 < k) (hl : 0 < l) (hB : 0 < B) (q1 : W * B ≤ C * C - S * S + 2 * B) (q2 : C * C - S * S ≤ W * B + 2 * B) :
    (((w0 * (c1 * s1 * (c1 * s1)) - (c0 * c0 * (s1 * s1) - s0 * s0 * (c1 * c1)) * w1).natAbs : Nat) : Int) * B ≤ 2 * (w1 * (c1 * s1 * (c1 * s1))) := by
  have hB4 : 0 ≤ B * B * (B * B) := Int.mul_nonneg (Int.mul_nonneg (by omega) (by omega)) (Int.mul_nonneg (by omega) (by omega))
  have e1 : (w0 * (c1 * s1 * (c1 * s1)) - (c0 * c0 * (s1 * s1) - s0 * s0 * (c1 * c1)) * w1) * B * (g * g * (k * k) * l) = (W * B - (C * C - S * S)) * (B * B * (B * B)) := by subst hc; subst hs; subst hw; grind
  have e2 : 2 * (w1 * (c1 * s1 * (c1 * s1))) * (g * g * (k * k) * l) = 2 * B * (B * B * (B * B)) := by grind
  have p1 : (W * B - (C * C - S * S)) * (B * B * (B * B)) ≤ 2 * B * (B * B * (B * B)) := Int.mul_le_mul_of_nonneg_right (by omega) hB4
  have p2 : -((W * B - (C * C - S * S)) * (B * B * (B * B))) ≤ 2 * B * (B * B * (B * B)) := by
    rw [← Int.neg_mul]; exact Int.mul_le_mul_of_nonneg_right (by omega) hB4
  rcases near_scale (Int.mul_pos (Int.mul_pos (Int.mul_pos hg hg) (Int.mul_pos hk hk)) hl) e1 e2 p1 p2 with h | h
  · exact h
  · omega
/-- the unreduced cosine and sine after v quarters -/
def sgC (v c s : Int) : Int := if v = 0 then c else if v = 1 then -s else if v = 2 then -c else s
def sgS (v c s : Int) : Int := if v = 0 then s else if v = 1 then c else if v = 2 then -s else -c
theorem rot_data {q : Int} {c s bt : Nat} (hbt : 0 < bt) {c0 c1 s0 s1 : Int} (hx : rot4 (q.fmod 4) (frs c s bt) = (c0, c1, s0, s1)) :
    ∃ g k : Int, 0 < g ∧ 0 < k ∧ c0 * g = sgC (q.fmod 4) c s ∧ c1 * g = bt ∧ s0 * k = sgS (q.fmod 4) c s ∧ s1 * k = bt := by
  have hp : (0 : Int) < bt := by omega
  have h1 := fracT_mul (a := (c : Int)) hp
  have h2 := fracB_mul (a := (c : Int)) hp
  have h3 := fracT_mul (a := (s : Int)) hp
  have h4 := fracB_mul (a := (s : Int)) hp
  have g1 := gcd_pos (a := (c : Int)) hp
  have g2 := gcd_pos (a := (s : Int)) hp
  unfold frs at hx
  rcases fmod4_cases q with e | e | e | e <;> rw [e] at hx ⊢ <;> simp [rot4, rotN] at hx <;> obtain ⟨x1, x2, x3, x4⟩ := hx <;> subst x1 <;> subst x2 <;> subst x3 <;> subst x4
  · exact ⟨_, _, g1, g2, h1, h2, h3, h4⟩
  · exact ⟨_, _, g2, g1, by rw [Int.neg_mul, h3]; rfl, h4, h1, h2⟩
  · exact ⟨_, _, g1, g2, by rw [Int.neg_mul, h1]; rfl, h2, by rw [Int.neg_mul, h3]; rfl, h4⟩
  · exact ⟨_, _, g2, g1, h3, h4, by rw [Int.neg_mul, h1]; rfl, h2⟩
theorem sg_size (q c s : Int) : sgC (q.fmod 4) c s * sgC (q.fmod 4) c s + sgS (q.fmod 4) c s * sgS (q.fmod 4) c s = c * c + s * s := by
  rcases fmod4_cases q with e | e | e | e <;> rw [e] <;> simp [sgC, sgS] <;> grind
def BtOk (bt : Nat) : Prop := bt = 256 ∨ bt = 4096 ∨ bt = 65536 ∨ bt = 1000
def DOk (d : Nat) : Prop := d = 1 ∨ d = 2 ∨ d = 3 ∨ d = 5 ∨ d = 7 ∨ d = 10
theorem tab_all {d bt : Nat} (hb : BtOk bt) (hd : DOk d) : upTo (chk d bt) (45 * d) = true := by
  rcases hb with rfl | rfl | rfl | rfl
  · rcases hd with rfl | rfl | rfl | rfl | rfl | rfl
    · exact tab256_1
    · exact tab256_2
    · exact tab256_3
    · exact tab256_5
    · exact tab256_7
    · exact tab256_10
  · rcases hd with rfl | rfl | rfl | rfl | rfl | rfl
    · exact tab4096_1
    · exact tab4096_2
    · exact tab4096_3
    · exact tab4096_5
    · exact tab4096_7
    · exact tab4096_10
  · rcases hd with rfl | rfl | rfl | rfl | rfl | rfl
    · exact tab65536_1
    · exact tab65536_2
    · exact tab65536_3
    · exact tab65536_5
    · exact tab65536_7
    · exact tab65536_10
  · rcases hd with rfl | rfl | rfl | rfl | rfl | rfl
    · exact tab1000_1
    · exact tab1000_2
    · exact tab1000_3
    · exact tab1000_5
    · exact tab1000_7
    · exact tab1000_10
theorem zero256 : csQ 0 1 256 = some (256, 0) := by decide +kernel
theorem zero4096 : csQ 0 1 4096 = some (4096, 0) := by decide +kernel
theorem zero65536 : csQ 0 1 65536 = some (65536, 0) := by decide +kernel
theorem zero1000 : csQ 0 1 1000 = some (1000, 0) := by decide +kernel
theorem csQ_zero {d bt : Nat} (hd : 0 < d) (h : csQ 0 1 bt = some (bt, 0)) : csQ 0 d bt = some (bt, 0) := by
  have := csQ_scale d 0 1 bt hd
  rw [Nat.mul_zero, Nat.mul_one] at this
  rw [this, h]
theorem zero_all {d bt : Nat} (hb : BtOk bt) (hd : 0 < d) : csQ 0 d bt = some (bt, 0) := by
  apply csQ_zero hd
  rcases hb with rfl | rfl | rfl | rfl
  · exact zero256
  · exact zero4096
  · exact zero65536
  · exact zero1000
theorem sizeN_iff {bt c s : Nat} : sizeN bt c s = true ↔ c * c + s * s ≤ bt * bt + 2 * bt ∧ bt * bt ≤ c * c + s * s + 2 * bt := nearN_iff
theorem twiceN_iff {bt c s w h : Nat} : twiceN bt c s (some (w, h)) = true ↔ (h * bt ≤ 2 * (c * s) + 2 * bt ∧ 2 * (c * s) ≤ h * bt + 2 * bt) ∧ (w * bt + s * s ≤ c * c + 2 * bt ∧ c * c ≤ w * bt + s * s + 2 * bt) := by
  unfold twiceN
  dsimp only
  rw [Bool.and_eq_true, nearN_iff, nearN_iff]
  exact Iff.rfl
/-- what holds of a rest r of d-ths of a degree -/
structure Row (d bt r c s W H : Nat) (δ : Nat) : Prop where
  q : csQ r d bt = some (c, s)
  c1 : c ≤ bt
  s1 : s ≤ bt
  z : r = 0 → c = bt ∧ s = 0
  size : c * c + s * s ≤ bt * bt + 2 * bt ∧ bt * bt ≤ c * c + s * s + 2 * bt
  dd : (δ = 0 ∧ 2 * r < 90 * d) ∨ (δ = 1 ∧ 90 * d ≤ 2 * r)
  q2 : csQ (2 * r - 90 * d * δ) d bt = some (W, H)
  w1 : W ≤ bt
  h1 : H ≤ bt
  z2 : 2 * r - 90 * d * δ = 0 → W = bt ∧ H = 0
  twice0 : δ = 0 → (H * bt ≤ 2 * (c * s) + 2 * bt ∧ 2 * (c * s) ≤ H * bt + 2 * bt) ∧ (W * bt + s * s ≤ c * c + 2 * bt ∧ c * c ≤ W * bt + s * s + 2 * bt)
  twice1 : δ = 1 → (W * bt ≤ 2 * (c * s) + 2 * bt ∧ 2 * (c * s) ≤ W * bt + 2 * bt) ∧ (c * c + H * bt ≤ s * s + 2 * bt ∧ s * s ≤ c * c + H * bt + 2 * bt)
theorem rows {d bt r : Nat} (hd : 0 < d) (T : upTo (chk d bt) (45 * d) = true) (Z : csQ 0 d bt = some (bt, 0)) (hr : r < 90 * d) : ∃ c s W H δ, Row d bt r c s W H δ := by
  have small : ∀ r', r' ≤ 90 * d → ∀ c s, csQ r' d bt = some (c, s) → c ≤ bt ∧ s ≤ bt := by
    intro r' hr' c s h
    by_cases hle : r' ≤ 45 * d
    · obtain ⟨_, c', s', _, _, q, _, a, b, _⟩ := chk_spec (upTo_spec T r' hle)
      rw [h] at q; cases q; exact ⟨a, b⟩
    · have hs := csQ_swap hr' h
      obtain ⟨_, c', s', _, _, q, _, a, b, _⟩ := chk_spec (upTo_spec T (90 * d - r') (by omega))
      rw [hs] at q; cases q; exact ⟨b, a⟩
  by_cases hle : r ≤ 45 * d
  · obtain ⟨_, c, s, w, h, q, q2, c1, s1, sz, tw⟩ := chk_spec (upTo_spec T r hle)
    rw [sizeN_iff] at sz
    rw [twiceN_iff] at tw
    by_cases h45 : r = 45 * d
    · have e2 : 2 * r = 90 * d := by omega
      have hs := csQ_swap (Nat.zero_le _) Z
      rw [Nat.sub_zero, ← e2] at hs
      rw [hs] at q2; cases q2
      refine ⟨c, s, bt, 0, 1, q, c1, s1, fun e => ?_, sz, .inr ⟨rfl, by omega⟩, by rw [show 2 * r - 90 * d * 1 = 0 by omega]; exact Z, by omega, by omega, fun _ => ⟨rfl, rfl⟩, fun e => (by cases e), fun _ => ?_⟩
      · rw [e] at q; rw [q] at Z; cases Z; exact ⟨rfl, rfl⟩
      · refine ⟨tw.1, ?_, ?_⟩
        · have := tw.2.2; omega
        · have := tw.2.1; omega
    · have hb := small (2 * r) (by omega) _ _ q2
      refine ⟨c, s, w, h, 0, q, c1, s1, fun e => ?_, sz, .inl ⟨rfl, by omega⟩, by rw [show 2 * r - 90 * d * 0 = 2 * r by omega]; exact q2, hb.1, hb.2, fun e => ?_, fun _ => tw, fun e => (by cases e)⟩
      · rw [e] at q; rw [q] at Z; cases Z; exact ⟨rfl, rfl⟩
      · rw [show 2 * r = 0 by omega] at q2; rw [q2] at Z; cases Z; exact ⟨rfl, rfl⟩
  · obtain ⟨_, c, s, w, h, q, q2, c1, s1, sz, tw⟩ := chk_spec (upTo_spec T (90 * d - r) (by omega))
    rw [sizeN_iff] at sz
    rw [twiceN_iff] at tw
    have hb := small (2 * (90 * d - r)) (by omega) _ _ q2
    have hs := csQ_swap (by omega) q
    rw [show 90 * d - (90 * d - r) = r by omega] at hs
    have hs2 := csQ_swap (by omega) q2
    rw [show 90 * d - 2 * (90 * d - r) = 2 * r - 90 * d * 1 by omega] at hs2
    refine ⟨s, c, h, w, 1, hs, s1, c1, fun e => by omega, ⟨by omega, by omega⟩, .inr ⟨rfl, by omega⟩, hs2, hb.2, hb.1, fun e => ?_, fun e => (by cases e), fun _ => ?_⟩
    · omega
    · rw [Nat.mul_comm s c]
      refine ⟨tw.1, ?_, ?_⟩
      · have := tw.2.1; omega
      · have := tw.2.2; omega
/-- all that the law of turns asks of the degrees n/d over the bottom bt -/
structure TrF (n d bt c0 c1 s0 s1 : Int) : Prop where
  H0 : toR n d bt = some (c0, c1, s0, s1)
  H1 : toR (n + 360 * d) d bt = some (c0, c1, s0, s1)
  H2 : toR (n + 90 * d) d bt = some (-s0, s1, c0, c1)
  H3 : toR (-n) d bt = some (c0, c1, -s0, s1)
  H4 : toR (-n + 90 * d) d bt = some (s0, s1, c0, c1)
  hm1 : bt.fmod c1 = 0
  hm2 : bt.fmod s1 = 0
  p1 : 0 < c1
  p2 : 0 < s1
  hn : (((((c0 * c0) * (s1 * s1) + (s0 * s0) * (c1 * c1)) * 1 - 1 * ((c1 * c1) * (s1 * s1))).natAbs : Nat) : Int) * bt ≤ 2 * ((c1 * c1) * (s1 * s1) * 1)
  w1 : c0.natAbs < 2 ^ 60
  w2 : c1.natAbs < 2 ^ 60
  w3 : s0.natAbs < 2 ^ 60
  w4 : s1.natAbs < 2 ^ 60
  ax : n.fmod (90 * d) ≠ 0 ∨ (n.fmod (90 * d) = 0 ∧ (((n.fdiv (90 * d)).fmod 4 = 0 ∧ c0 = 1 ∧ c1 = 1 ∧ s0 = 0 ∧ s1 = 1) ∨ ((n.fdiv (90 * d)).fmod 4 = 1 ∧ c0 = 0 ∧ c1 = 1 ∧ s0 = 1 ∧ s1 = 1) ∨
    ((n.fdiv (90 * d)).fmod 4 = 2 ∧ c0 = -1 ∧ c1 = 1 ∧ s0 = 0 ∧ s1 = 1) ∨ ((n.fdiv (90 * d)).fmod 4 = 3 ∧ c0 = 0 ∧ c1 = 1 ∧ s0 = -1 ∧ s1 = 1)))
structure TwF (n d bt c0 c1 s0 s1 w0 w1 h0 h1 : Int) : Prop where
  H1 : toR (fracT (2 * n) d) (fracB (2 * n) d) bt = some (w0, w1, h0, h1)
  y : 0 < fracB (2 * n) d
  n1 : (((h0 * (c1 * s1) - 2 * c0 * s0 * h1).natAbs : Nat) : Int) * bt ≤ 2 * (h1 * (c1 * s1))
  n2 : (((w0 * (c1 * s1 * (c1 * s1)) - (c0 * c0 * (s1 * s1) - s0 * s0 * (c1 * c1)) * w1).natAbs : Nat) : Int) * bt ≤ 2 * (w1 * (c1 * s1 * (c1 * s1)))
  u1 : w0.natAbs < 2 ^ 60
  u2 : w1.natAbs < 2 ^ 60
  u3 : h0.natAbs < 2 ^ 60
  u4 : h1.natAbs < 2 ^ 60
theorem sg_bound {q : Int} {c s bt : Nat} (hc : c ≤ bt) (hs : s ≤ bt) : (sgC (q.fmod 4) c s).natAbs ≤ bt ∧ (sgS (q.fmod 4) c s).natAbs ≤ bt := by
  rcases fmod4_cases q with e | e | e | e <;> rw [e] <;> simp [sgC, sgS] <;> omega
theorem abs_le_mul {x g X : Int} {b : Nat} (hg : 0 < g) (h : x * g = X) (hX : X.natAbs ≤ b) : x.natAbs ≤ b := by
  have : X.natAbs = x.natAbs * g.natAbs := by rw [← h, Int.natAbs_mul]
  have h1 : x.natAbs * 1 ≤ x.natAbs * g.natAbs := Nat.mul_le_mul_left _ (by omega)
  omega
theorem fmod_of_mul {x g : Int} {b : Int} (h : x * g = b) : b.fmod x = 0 := by
  rw [← h, Int.mul_fmod_right]
theorem pos_of_mul {x g : Int} {b : Int} (hb : 0 < b) (hg : 0 < g) (h : x * g = b) : 0 < x := by
  rcases Int.lt_or_le 0 x with h1 | h1
  · exact h1
  · have := Int.mul_le_mul_of_nonneg_right h1 (Int.le_of_lt hg)
    omega
theorem split_n {n : Int} {d : Nat} (hd : 0 < d) (hb : n.natAbs < 2 ^ 50) : ∃ (q : Int) (r : Nat), n = 90 * q * d + r ∧ r < 90 * d ∧ q.natAbs < 2 ^ 60 ∧ n.fmod (90 * d) = r ∧ n.fdiv (90 * d) = q := by
  have hp : (0 : Int) < 90 * d := by omega
  have h0 := Int.emod_nonneg n (Int.ne_of_gt hp)
  have h1 := Int.emod_lt_of_pos n hp
  have h2 := Int.mul_ediv_add_emod n (90 * d)
  refine ⟨n / (90 * d), (n % (90 * d)).toNat, ?_, by omega, ?_, ?_, ?_⟩
  · rw [show (90 * (n / (90 * (d : Int))) * d) = 90 * (d : Int) * (n / (90 * d)) by rw [Int.mul_assoc, Int.mul_comm (n / _), ← Int.mul_assoc]]
    omega
  · have := Int.natAbs_ediv_le_natAbs n (90 * d)
    omega
  · rw [Int.fmod_eq_emod_of_nonneg _ (by omega)]; omega
  · rw [Int.fdiv_eq_ediv_of_nonneg _ (by omega)]
theorem rot4_zero {q : Int} {bt : Nat} (hbt : 0 < bt) {c0 c1 s0 s1 : Int} (hx : rot4 (q.fmod 4) (frs bt 0 bt) = (c0, c1, s0, s1)) :
    (q.fmod 4 = 0 ∧ c0 = 1 ∧ c1 = 1 ∧ s0 = 0 ∧ s1 = 1) ∨ (q.fmod 4 = 1 ∧ c0 = 0 ∧ c1 = 1 ∧ s0 = 1 ∧ s1 = 1) ∨ (q.fmod 4 = 2 ∧ c0 = -1 ∧ c1 = 1 ∧ s0 = 0 ∧ s1 = 1) ∨ (q.fmod 4 = 3 ∧ c0 = 0 ∧ c1 = 1 ∧ s0 = -1 ∧ s1 = 1) := by
  rw [frs_zero hbt] at hx
  rcases fmod4_cases q with e | e | e | e <;> rw [e] at hx
  · obtain ⟨h1, h2, h3, h4⟩ : 1 = c0 ∧ 1 = c1 ∧ 0 = s0 ∧ 1 = s1 := by simpa [rot4, rotN] using hx
    exact .inl ⟨e, h1.symm, h2.symm, h3.symm, h4.symm⟩
  · obtain ⟨h1, h2, h3, h4⟩ : 0 = c0 ∧ 1 = c1 ∧ 1 = s0 ∧ 1 = s1 := by simpa [rot4, rotN] using hx
    exact .inr (.inl ⟨e, h1.symm, h2.symm, h3.symm, h4.symm⟩)
  · obtain ⟨h1, h2, h3, h4⟩ : -1 = c0 ∧ 1 = c1 ∧ 0 = s0 ∧ 1 = s1 := by simpa [rot4, rotN] using hx
    exact .inr (.inr (.inl ⟨e, h1.symm, h2.symm, h3.symm, h4.symm⟩))
  · obtain ⟨h1, h2, h3, h4⟩ : 0 = c0 ∧ 1 = c1 ∧ -1 = s0 ∧ 1 = s1 := by simpa [rot4, rotN] using hx
    exact .inr (.inr (.inr ⟨e, h1.symm, h2.symm, h3.symm, h4.symm⟩))
theorem fdiv_fmod4 {n : Int} {d : Nat} {q : Int} (h : n.fdiv (90 * d) = q) : (n.fdiv (90 * d)).fmod 4 = q.fmod 4 := by rw [h]
theorem sgn_size {q : Int} {c s bt : Nat} (h : c * c + s * s ≤ bt * bt + 2 * bt ∧ bt * bt ≤ c * c + s * s + 2 * bt) :
    sgC (q.fmod 4) c s * sgC (q.fmod 4) c s + sgS (q.fmod 4) c s * sgS (q.fmod 4) c s ≤ (bt : Int) * bt + 2 * bt ∧ (bt : Int) * bt ≤ sgC (q.fmod 4) c s * sgC (q.fmod 4) c s + sgS (q.fmod 4) c s * sgS (q.fmod 4) c s + 2 * bt := by
  rw [sg_size]
  obtain ⟨h1, h2⟩ := h
  constructor
  · have := Int.ofNat_le.mpr h1
    simp only [Int.natCast_add, Int.natCast_mul] at this
    exact this
  · have := Int.ofNat_le.mpr h2
    simp only [Int.natCast_add, Int.natCast_mul] at this
    exact this
theorem dbl {q : Int} {c s W H bt : Nat} {δ : Nat} (dd : δ = 0 ∨ δ = 1)
    (t0 : δ = 0 → (H * bt ≤ 2 * (c * s) + 2 * bt ∧ 2 * (c * s) ≤ H * bt + 2 * bt) ∧ (W * bt + s * s ≤ c * c + 2 * bt ∧ c * c ≤ W * bt + s * s + 2 * bt))
    (t1 : δ = 1 → (W * bt ≤ 2 * (c * s) + 2 * bt ∧ 2 * (c * s) ≤ W * bt + 2 * bt) ∧ (c * c + H * bt ≤ s * s + 2 * bt ∧ s * s ≤ c * c + H * bt + 2 * bt)) :
    sgS ((2 * q + δ).fmod 4) W H * bt ≤ 2 * (sgC (q.fmod 4) c s * sgS (q.fmod 4) c s) + 2 * bt ∧ 2 * (sgC (q.fmod 4) c s * sgS (q.fmod 4) c s) ≤ sgS ((2 * q + δ).fmod 4) W H * bt + 2 * bt ∧
    sgC ((2 * q + δ).fmod 4) W H * bt ≤ sgC (q.fmod 4) c s * sgC (q.fmod 4) c s - sgS (q.fmod 4) c s * sgS (q.fmod 4) c s + 2 * bt ∧
    sgC (q.fmod 4) c s * sgC (q.fmod 4) c s - sgS (q.fmod 4) c s * sgS (q.fmod 4) c s ≤ sgC ((2 * q + δ).fmod 4) W H * bt + 2 * bt := by
  rcases dd with rfl | rfl
  · obtain ⟨⟨a1, a2⟩, b1, b2⟩ := t0 rfl
    have a1 := Int.ofNat_le.mpr a1
    have a2 := Int.ofNat_le.mpr a2
    have b1 := Int.ofNat_le.mpr b1
    have b2 := Int.ofNat_le.mpr b2
    simp only [Int.natCast_add, Int.natCast_mul] at a1 a2 b1 b2
    generalize (c : Int) = C at *
    generalize (s : Int) = S at *
    generalize (W : Int) = U at *
    generalize (H : Int) = V at *
    rcases fmod4_cases q with e | e | e | e
    · rw [show (2 * q + ((0 : Nat) : Int)).fmod 4 = 0 by rw [Int.fmod_eq_emod_of_nonneg _ (by decide)] at e ⊢; omega, e]
      simp [sgC, sgS]
      refine ⟨?_, ?_, ?_, ?_⟩ <;> grind
    · rw [show (2 * q + ((0 : Nat) : Int)).fmod 4 = 2 by rw [Int.fmod_eq_emod_of_nonneg _ (by decide)] at e ⊢; omega, e]
      simp [sgC, sgS]
      refine ⟨?_, ?_, ?_, ?_⟩ <;> grind
    · rw [show (2 * q + ((0 : Nat) : Int)).fmod 4 = 0 by rw [Int.fmod_eq_emod_of_nonneg _ (by decide)] at e ⊢; omega, e]
      simp [sgC, sgS]
      refine ⟨?_, ?_, ?_, ?_⟩ <;> grind
    · rw [show (2 * q + ((0 : Nat) : Int)).fmod 4 = 2 by rw [Int.fmod_eq_emod_of_nonneg _ (by decide)] at e ⊢; omega, e]
      simp [sgC, sgS]
      refine ⟨?_, ?_, ?_, ?_⟩ <;> grind
  · obtain ⟨⟨a1, a2⟩, b1, b2⟩ := t1 rfl
    have a1 := Int.ofNat_le.mpr a1
    have a2 := Int.ofNat_le.mpr a2
    have b1 := Int.ofNat_le.mpr b1
    have b2 := Int.ofNat_le.mpr b2
    simp only [Int.natCast_add, Int.natCast_mul] at a1 a2 b1 b2
    generalize (c : Int) = C at *
    generalize (s : Int) = S at *
    generalize (W : Int) = U at *
    generalize (H : Int) = V at *
    rcases fmod4_cases q with e | e | e | e
    · rw [show (2 * q + ((1 : Nat) : Int)).fmod 4 = 1 by rw [Int.fmod_eq_emod_of_nonneg _ (by decide)] at e ⊢; omega, e]
      simp [sgC, sgS]
      refine ⟨?_, ?_, ?_, ?_⟩ <;> grind
    · rw [show (2 * q + ((1 : Nat) : Int)).fmod 4 = 3 by rw [Int.fmod_eq_emod_of_nonneg _ (by decide)] at e ⊢; omega, e]
      simp [sgC, sgS]
      refine ⟨?_, ?_, ?_, ?_⟩ <;> grind
    · rw [show (2 * q + ((1 : Nat) : Int)).fmod 4 = 1 by rw [Int.fmod_eq_emod_of_nonneg _ (by decide)] at e ⊢; omega, e]
      simp [sgC, sgS]
      refine ⟨?_, ?_, ?_, ?_⟩ <;> grind
    · rw [show (2 * q + ((1 : Nat) : Int)).fmod 4 = 3 by rw [Int.fmod_eq_emod_of_nonneg _ (by decide)] at e ⊢; omega, e]
      simp [sgC, sgS]
      refine ⟨?_, ?_, ?_, ?_⟩ <;> grind
/-- twice the degrees, reduced, and its turn -/
theorem twice_toR {n q : Int} {r d bt W H δ : Nat} (hdok : DOk d) (hbt : 0 < bt) (hb : bt < 2 ^ 100) (hn : n = 90 * q * d + r) (hr : r < 90 * d) (hg : Int.gcd n (d : Int) = 1) (hq : q.natAbs < 2 ^ 60)
    (hall : ∀ r', r' ≤ 45 * d → ∀ c' s', cs r' d bt = some (c', s') → c' ≤ bt ∧ s' ≤ bt)
    (dd : (δ = 0 ∧ 2 * r < 90 * d) ∨ (δ = 1 ∧ 90 * d ≤ 2 * r)) (h : csQ (2 * r - 90 * d * δ) d bt = some (W, H)) (h0 : 2 * r - 90 * d * δ = 0 → W = bt ∧ H = 0) :
    0 < fracB (2 * n) d ∧ toR (fracT (2 * n) d) (fracB (2 * n) d) bt = some (rot4 ((2 * q + δ).fmod 4) (frs W H bt)) := by
  have hd : 0 < d := by unfold DOk at hdok; omega
  have hd2 : d ≤ 10 := by unfold DOk at hdok; omega
  refine ⟨fracB_pos' (by omega), ?_⟩
  have key : ∀ r2 : Nat, r2 = 2 * r - 90 * d * δ → 2 * n = 90 * (2 * q + δ) * d + r2 ∧ r2 < 90 * d := by
    intro r2 e
    rcases dd with ⟨rfl, h1⟩ | ⟨rfl, h1⟩
    · have e : r2 = 2 * r := by omega
      subst e
      refine ⟨?_, by omega⟩
      rw [hn]; grind
    · have e : r2 + 90 * d = 2 * r := by omega
      refine ⟨?_, by omega⟩
      have e' : (r2 : Int) + 90 * d = 2 * r := by omega
      rw [hn]; grind
  obtain ⟨k1, k2⟩ := key _ rfl
  have hq2 : (2 * q + (δ : Int)).natAbs < 2 ^ 100 := nq_add (by rw [Int.natAbs_mul]; exact Nat.lt_of_lt_of_le (Nat.mul_lt_mul_of_pos_left hq (by decide)) (by decide)) (by rcases dd with ⟨rfl, _⟩ | ⟨rfl, _⟩ <;> decide)
  rcases Nat.mod_two_eq_zero_or_one d with hev | hodd
  · -- even: half the bottom
    obtain ⟨e, he⟩ : ∃ e, d = 2 * e := ⟨d / 2, by omega⟩
    have he0 : 0 < e := by omega
    obtain ⟨r', hr'⟩ : ∃ r', 2 * r - 90 * d * δ = 2 * r' := by
      rcases dd with ⟨rfl, _⟩ | ⟨rfl, _⟩
      · exact ⟨r, by omega⟩
      · exact ⟨r - 90 * e, by subst he; omega⟩
    rw [hr'] at h k1 k2 h0
    subst he
    rw [csQ_scale 2 r' e bt (by decide)] at h
    have hng : Int.gcd n (e : Int) = 1 := by
      have h1 : Int.gcd n (e : Int) ∣ Int.gcd n ((2 * e : Nat) : Int) := by
        apply Int.dvd_gcd
        · exact Int.gcd_dvd_left ..
        · exact Int.dvd_trans (Int.gcd_dvd_right ..) ⟨2, by rw [Int.natCast_mul]; grind⟩
      rw [hg] at h1
      exact Nat.dvd_one.mp h1
    have g2 : Int.gcd (2 * n) ((2 * e : Nat) : Int) = 2 := by
      rw [Int.natCast_mul]
      show Int.gcd (2 * n) (2 * (e : Int)) = 2
      rw [Int.gcd_mul_left, hng]; rfl
    have f1 : fracT (2 * n) ((2 * e : Nat) : Int) = n := by
      unfold fracT
      rw [if_neg (by omega), g2, Int.fdiv_eq_ediv_of_nonneg _ (by decide)]
      show 2 * n / 2 = n
      omega
    have f2 : fracB (2 * n) ((2 * e : Nat) : Int) = (e : Int) := by
      unfold fracB
      rw [if_neg (by omega), g2, Int.fdiv_eq_ediv_of_nonneg _ (by decide)]
      show ((2 * e : Nat) : Int) / 2 = (e : Int)
      omega
    rw [f1, f2]
    refine toR_csQ he0 hbt hb (q := 2 * q + δ) (r := r') ?_ (by omega) hng hq2 (by omega) h (fun z => h0 (by omega)) ?_
    · have k1' : 2 * n = 90 * (2 * q + δ) * (2 * (e : Int)) + 2 * (r' : Int) := by rw [k1]; simp only [Int.natCast_mul]; rfl
      grind
    · intro r2 hr2 c' s' hc
      rw [← cs_scale 2 r2 e bt (by decide)] at hc
      exact hall (2 * r2) (by omega) c' s' hc
  · have hg2 : Int.gcd (2 * n) (d : Int) = 1 := by
      have hc : Nat.Coprime n.natAbs d := hg
      have h2 : Nat.Coprime 2 d := by
        unfold DOk at hdok
        rcases hdok with rfl | rfl | rfl | rfl | rfl | rfl <;> first | decide | omega
      have : Nat.Coprime (2 * n.natAbs) d := Nat.Coprime.mul_left h2 hc
      show Nat.gcd (2 * n).natAbs (d : Int).natAbs = 1
      rw [Int.natAbs_mul]
      exact this
    have fi := frac_id (a := 2 * n) (b := (d : Int)) (by omega) hg2
    rw [fi.1, fi.2]
    exact toR_csQ hd hbt hb k1 k2 hg2 hq2 (by omega) h h0 hall
theorem tr_all {n : Int} {d bt : Nat} (hb : BtOk bt) (hdk : DOk d) (hg : Int.gcd n (d : Int) = 1) (hn50 : n.natAbs < 2 ^ 50) :
    ∃ c0 c1 s0 s1 w0 w1 h0 h1 : Int, TrF n d bt c0 c1 s0 s1 ∧ TwF n d bt c0 c1 s0 s1 w0 w1 h0 h1 := by
  have hd : 0 < d := by unfold DOk at hdk; omega
  have hbt : 0 < bt := by unfold BtOk at hb; omega
  have hbl : bt ≤ 65536 := by unfold BtOk at hb; omega
  have hb100 : bt < 2 ^ 100 := by omega
  have hd10 : d ≤ 10 := by unfold DOk at hdk; omega
  have T := tab_all hb hdk
  have hall : ∀ r', r' ≤ 45 * d → ∀ c' s', cs r' d bt = some (c', s') → c' ≤ bt ∧ s' ≤ bt := fun r' h => (chk_spec (upTo_spec T r' h)).1
  obtain ⟨q, r, en, hr, hq, hfm, hfd⟩ := split_n hd hn50
  obtain ⟨c, s, W, H, δ, R⟩ := rows hd T (zero_all hb hd) hr
  have hd' : δ = 0 ∨ δ = 1 := by rcases R.dd with h | h <;> omega
  obtain ⟨k1, k2⟩ := twice_toR hdk hbt hb100 en hr hg hq hall R.dd R.q2 R.z2
  obtain ⟨c0, c1, s0, s1, hx⟩ : ∃ c0 c1 s0 s1 : Int, rot4 (q.fmod 4) (frs c s bt) = (c0, c1, s0, s1) := ⟨_, _, _, _, rfl⟩
  obtain ⟨w0, w1, h0, h1, hy⟩ : ∃ w0 w1 h0 h1 : Int, rot4 ((2 * q + δ).fmod 4) (frs W H bt) = (w0, w1, h0, h1) := ⟨_, _, _, _, rfl⟩
  have G := turns hd hbt hb100 en hr hg (by omega) (by omega) R.q R.z hall hx
  obtain ⟨g, k, g1, g2, D1, D2, D3, D4⟩ := rot_data hbt hx
  obtain ⟨l, m, l1, l2, E1, E2, E3, E4⟩ := rot_data hbt hy
  have hB : (0 : Int) < bt := by omega
  have sz := sgn_size (q := q) R.size
  have tw := dbl (q := q) hd' R.twice0 R.twice1
  have bd := sg_bound (q := q) R.c1 R.s1
  have bd2 := sg_bound (q := 2 * q + δ) R.w1 R.h1
  have nbt : ((bt : Nat) : Int).natAbs ≤ bt := Nat.le_of_eq (Int.natAbs_natCast bt)
  have tt : ∀ {x : Int}, x.natAbs ≤ bt → x.natAbs < 2 ^ 60 := fun h => Nat.lt_of_le_of_lt (Nat.le_trans h hbl) (by decide)
  have a1 := abs_le_mul g1 D1 bd.1
  have a2 := abs_le_mul g1 D2 (b := bt) nbt
  have a3 := abs_le_mul g2 D3 bd.2
  have a4 := abs_le_mul g2 D4 (b := bt) nbt
  have b1 := abs_le_mul l1 E1 bd2.1
  have b2 := abs_le_mul l1 E2 (b := bt) nbt
  have b3 := abs_le_mul l2 E3 bd2.2
  have b4 := abs_le_mul l2 E4 (b := bt) nbt
  refine ⟨c0, c1, s0, s1, w0, w1, h0, h1, ?_, ?_⟩
  · refine ⟨G.1, G.2.1, G.2.2.1, G.2.2.2.1, G.2.2.2.2, fmod_of_mul D2, fmod_of_mul D4, pos_of_mul hB g1 D2, pos_of_mul hB g2 D4, ?_, tt a1, tt a2, tt a3, tt a4, ?_⟩
    · exact size_frac D1 D2 D3 D4 g1 g2 hB sz.1 sz.2
    · rw [hfm, hfd]
      by_cases hz : r = 0
      · right
        refine ⟨by omega, ?_⟩
        obtain ⟨z1, z2⟩ := R.z hz
        rw [z1, z2] at hx
        exact rot4_zero hbt hx
      · left; omega
  · refine ⟨by rw [k2, hy], k1, ?_, ?_, tt b1, tt b2, tt b3, tt b4⟩
    · exact twice_frac1 D1 D2 D3 D4 E3 E4 g1 g2 l2 hB tw.1 tw.2.1
    · exact twice_frac2 D1 D2 D3 D4 E1 E2 g1 g2 l1 hB tw.2.2.1 tw.2.2.2
/-- the sine and cosine of 30 degrees -/
structure KnF (bt c0 c1 s0 s1 : Int) : Prop where
  H0 : toR 30 1 bt = some (c0, c1, s0, s1)
  n1 : (((s0 * 2 - 1 * s1).natAbs : Nat) : Int) * bt ≤ 1 * (s1 * 2)
  n2 : (((c0 * c0 * 4 - 3 * (c1 * c1)).natAbs : Nat) : Int) * bt ≤ 3 * (c1 * c1 * 4)
  w1 : c0.natAbs < 2 ^ 60
  w2 : c1.natAbs < 2 ^ 60
  w3 : s0.natAbs < 2 ^ 60
  w4 : s1.natAbs < 2 ^ 60
def knB (bt : Int) : Option (Int × Int × Int × Int) → Bool
  | none => false
  | some x => decide ((((x.2.2.1 * 2 - 1 * x.2.2.2).natAbs : Nat) : Int) * bt ≤ 1 * (x.2.2.2 * 2)) && (decide ((((x.1 * x.1 * 4 - 3 * (x.2.1 * x.2.1)).natAbs : Nat) : Int) * bt ≤ 3 * (x.2.1 * x.2.1 * 4)) &&
    (decide (x.1.natAbs < 2 ^ 60) && (decide (x.2.1.natAbs < 2 ^ 60) && (decide (x.2.2.1.natAbs < 2 ^ 60) && decide (x.2.2.2.natAbs < 2 ^ 60)))))
theorem knB_spec {bt : Int} {o : Option (Int × Int × Int × Int)} (h : knB bt o = true) (e : o = toR 30 1 bt) : ∃ c0 c1 s0 s1, KnF bt c0 c1 s0 s1 := by
  cases o with
  | none => cases h
  | some x =>
    unfold knB at h
    simp only [Bool.and_eq_true, decide_eq_true_eq] at h
    obtain ⟨h1, h2, h3, h4, h5, h6⟩ := h
    exact ⟨x.1, x.2.1, x.2.2.1, x.2.2.2, e.symm, h1, h2, h3, h4, h5, h6⟩
theorem kn256 : knB 256 (toR 30 1 256) = true := by decide +kernel
theorem kn4096 : knB 4096 (toR 30 1 4096) = true := by decide +kernel
theorem kn65536 : knB 65536 (toR 30 1 65536) = true := by decide +kernel
theorem kn1000 : knB 1000 (toR 30 1 1000) = true := by decide +kernel
theorem kn_all {bt : Nat} (hb : BtOk bt) : ∃ c0 c1 s0 s1 : Int, KnF bt c0 c1 s0 s1 := by
  rcases hb with rfl | rfl | rfl | rfl
  · exact knB_spec kn256 rfl
  · exact knB_spec kn4096 rfl
  · exact knB_spec kn65536 rfl
  · exact knB_spec kn1000 rfl
/-- a draw of degrees is a reduced fraction over one of six bottoms -/
theorem dok_dvd : ∀ b : Fin 11, ∀ e : Fin 11, (b : Nat) ∣ e → ((e = 1 ∨ e = 2 ∨ e = 3 ∨ e = 7 ∨ e = 10) → ((b : Nat) = 1 ∨ (b : Nat) = 2 ∨ (b : Nat) = 3 ∨ (b : Nat) = 5 ∨ (b : Nat) = 7 ∨ (b : Nat) = 10)) := by decide +kernel
theorem degP_ok {n d : Int} (h : DegP n d) : ∃ e : Nat, d = e ∧ DOk e ∧ Int.gcd n (e : Int) = 1 ∧ n.natAbs < 2 ^ 50 := by
  rcases h with ⟨t, h0, h1, rfl, rfl⟩ | ⟨t, h0, h1, rfl, rfl⟩ | ⟨t, e, h0, h1, he, rfl, rfl⟩
  · exact ⟨1, rfl, .inl rfl, Int.gcd_one, by omega⟩
  · exact ⟨1, rfl, .inl rfl, Int.gcd_one, by omega⟩
  · have hp : 0 < e := by omega
    have e1 := fracT_mul (a := t - 2000) hp
    have e2 := fracB_mul (a := t - 2000) hp
    have g0 := gcd_pos (a := t - 2000) hp
    have p2 := fracB_pos' (a := t - 2000) hp
    have hg : Int.gcd (fracT (t - 2000) e) (fracB (t - 2000) e) = 1 := by
      unfold fracT fracB
      rw [if_neg (by omega), if_neg (by omega), Int.fdiv_eq_ediv_of_nonneg _ (by omega), Int.fdiv_eq_ediv_of_nonneg _ (by omega)]
      exact Int.gcd_ediv_gcd_ediv_gcd (by omega)
    have ba : (fracT (t - 2000) e).natAbs ≤ 2001 := abs_le_mul g0 e1 (by omega)
    generalize fracT (t - 2000) e = a at *
    generalize fracB (t - 2000) e = b at *
    generalize Int.gcd (t - 2000) e = g at *
    refine ⟨b.toNat, by omega, ?_, by rw [show ((b.toNat : Nat) : Int) = b by omega]; exact hg, by omega⟩
    obtain ⟨b', rfl⟩ : ∃ b' : Nat, b = b' := ⟨b.toNat, by omega⟩
    have hbd : b' ∣ e.toNat := by
      refine ⟨g, ?_⟩
      have : ((b' * g : Nat) : Int) = e := by rw [Int.natCast_mul]; exact e2
      omega
    have hle : b' ≤ 10 := by
      have := Nat.le_of_dvd (by omega) hbd
      omega
    show DOk b'
    rcases he with rfl | rfl | rfl | rfl | rfl <;> exact dok_dvd ⟨b', Nat.lt_succ_of_le hle⟩ ⟨_, by decide⟩ hbd (by decide)
/-- what the law asks of a tangent (no right angle) -/
structure TaF (c0 c1 s0 s1 C0 C1 S0 S1 p q u v R x y : Int) : Prop where
  hc : c0 ≠ 0
  hs : s1 * c0 ≠ 0
  e1 : fracT (s0 * c1) (s1 * c0) = p
  e2 : fracB (s0 * c1) (s1 * c0) = q
  e3 : fracT (p * 4096) (q * 1) = u
  e4 : fracB (p * 4096) (q * 1) = v
  e5 : (2 * u + v).fdiv (2 * v) = R
  e6 : fracT R 4096 = x
  e7 : fracB R 4096 = y
  b1 : x.natAbs < 2 ^ 900
  b2 : y.natAbs < 2 ^ 900
  nr : ((C0.natAbs : Nat) : Int) * 100 < C1 ∨ ∃ f0 f1, ¬ ((C0.natAbs : Nat) : Int) * 100 < C1 ∧ fracT (S0 * C1) (S1 * C0) = f0 ∧ fracB (S0 * C1) (S1 * C0) = f1 ∧ S1 * C0 ≠ 0 ∧ ((((x * f1 - f0 * y)).natAbs : Nat) : Int) * 4096 ≤ 1 * (y * f1) ∧ f0.natAbs < 2 ^ 900 ∧ f1.natAbs < 2 ^ 900
def taE (C0 C1 S0 S1 x y f0 f1 : Int) : Bool :=
  decide (x.natAbs < 2 ^ 900) && (decide (y.natAbs < 2 ^ 900) && (decide (((C0.natAbs : Nat) : Int) * 100 < C1) ||
    (decide (S1 * C0 ≠ 0) && (decide (((((x * f1 - f0 * y)).natAbs : Nat) : Int) * 4096 ≤ 1 * (y * f1)) && (decide (f0.natAbs < 2 ^ 900) && decide (f1.natAbs < 2 ^ 900))))))
def taD (C0 C1 S0 S1 R : Int) : Bool := taE C0 C1 S0 S1 (fracT R 4096) (fracB R 4096) (fracT (S0 * C1) (S1 * C0)) (fracB (S0 * C1) (S1 * C0))
def taC (C0 C1 S0 S1 u v : Int) : Bool := taD C0 C1 S0 S1 ((2 * u + v).fdiv (2 * v))
def taB (C0 C1 S0 S1 p q : Int) : Bool := taC C0 C1 S0 S1 (fracT (p * 4096) (q * 1)) (fracB (p * 4096) (q * 1))
def taA (X Y : Int × Int × Int × Int) : Bool := decide (X.1 ≠ 0) && (decide (X.2.2.2 * X.1 ≠ 0) && taB Y.1 Y.2.1 Y.2.2.1 Y.2.2.2 (fracT (X.2.2.1 * X.2.1) (X.2.2.2 * X.1)) (fracB (X.2.2.1 * X.2.1) (X.2.2.2 * X.1)))
theorem taA_spec {c0 c1 s0 s1 C0 C1 S0 S1 : Int} (h : taA (c0, c1, s0, s1) (C0, C1, S0, S1) = true) : ∃ p q u v R x y, TaF c0 c1 s0 s1 C0 C1 S0 S1 p q u v R x y := by
  unfold taA taB taC taD taE at h
  simp only [Bool.and_eq_true, Bool.or_eq_true, decide_eq_true_eq] at h
  obtain ⟨h1, h2, h3, h4, h5⟩ := h
  refine ⟨_, _, _, _, _, _, _, h1, h2, rfl, rfl, rfl, rfl, rfl, rfl, rfl, h3, h4, ?_⟩
  by_cases hlt : ((C0.natAbs : Nat) : Int) * 100 < C1
  · exact .inl hlt
  · rcases h5 with h5 | ⟨h6, h7, h8, h9⟩
    · exact absurd h5 hlt
    · exact .inr ⟨_, _, hlt, rfl, rfl, h6, h7, h8, h9⟩
def taV (v : Int) (c s C S : Nat) : Bool := taA (rot4 v (frs c s 268435456)) (rot4 v (frs C S 1073741824))
def taX (c s C S : Nat) : Bool := taV 0 c s C S && taV 2 c s C S
def taY (c s C S : Nat) : Bool := taV 1 c s C S && taV 3 c s C S
def taR (r : Nat) : Option (Nat × Nat) → Option (Nat × Nat) → Bool
  | some x, some y => (Nat.ble x.1 268435456 && (Nat.ble x.2 268435456 && (Nat.ble y.1 1073741824 && Nat.ble y.2 1073741824))) && (taX x.1 x.2 y.1 y.2 && (Nat.beq r 0 || (taY x.1 x.2 y.1 y.2 && (taX x.2 x.1 y.2 y.1 && taY x.2 x.1 y.2 y.1))))
  | _, _ => false
def chkT (d r : Nat) : Bool := (smallN 268435456 (cs r d 268435456) && smallN 1073741824 (cs r d 1073741824)) && taR r (csQ r d 268435456) (csQ r d 1073741824)
theorem ta_1 : upTo (chkT 1) 45 = true := by decide +kernel
theorem ta_2 : upTo (chkT 2) 90 = true := by decide +kernel
theorem ta_3 : upTo (chkT 3) 135 = true := by decide +kernel
theorem ta_5 : upTo (chkT 5) 225 = true := by decide +kernel
theorem ta_7 : upTo (chkT 7) 315 = true := by decide +kernel
theorem ta_10 : upTo (chkT 10) 450 = true := by decide +kernel
theorem taTab {d : Nat} (hd : DOk d) : upTo (chkT d) (45 * d) = true := by
  rcases hd with rfl | rfl | rfl | rfl | rfl | rfl
  · exact ta_1
  · exact ta_2
  · exact ta_3
  · exact ta_5
  · exact ta_7
  · exact ta_10
theorem zero28 : csQ 0 1 268435456 = some (268435456, 0) := by decide +kernel
theorem zero30 : csQ 0 1 1073741824 = some (1073741824, 0) := by decide +kernel
theorem smallN_spec {bt : Nat} {o : Option (Nat × Nat)} (h : smallN bt o = true) : ∀ c s, o = some (c, s) → c ≤ bt ∧ s ≤ bt := by
  rintro c s rfl
  have h : and (Nat.ble c bt) (Nat.ble s bt) = true := h
  rw [Bool.and_eq_true, Nat.ble_eq, Nat.ble_eq] at h
  exact h
structure TaRow (d r c s C S : Nat) : Prop where
  q : csQ r d 268435456 = some (c, s)
  Q : csQ r d 1073741824 = some (C, S)
  c1 : c ≤ 268435456
  s1 : s ≤ 268435456
  C1 : C ≤ 1073741824
  S1 : S ≤ 1073741824
  ev : taX c s C S = true
  od : r ≠ 0 → taY c s C S = true
theorem taRow {d r : Nat} (T : upTo (chkT d) (45 * d) = true) (hr : r < 90 * d) : ∃ c s C S, TaRow d r c s C S := by
  have key : ∀ r, r ≤ 45 * d → ∃ c s C S, TaRow d r c s C S ∧ (r ≠ 0 → taX s c S C = true ∧ taY s c S C = true) := by
    intro r hr
    have h := upTo_spec T r hr
    unfold chkT at h
    rw [Bool.and_eq_true] at h
    obtain ⟨_, h⟩ := h
    cases hq : csQ r d 268435456 with
    | none => rw [hq] at h; cases h
    | some x =>
      cases hQ : csQ r d 1073741824 with
      | none => rw [hq, hQ] at h; cases h
      | some y =>
        rw [hq, hQ] at h
        unfold taR at h
        simp only [Bool.and_eq_true, Bool.or_eq_true, Nat.ble_eq, Nat.beq_eq] at h
        obtain ⟨⟨a1, a2, a3, a4⟩, hx, hy⟩ := h
        refine ⟨x.1, x.2, y.1, y.2, ⟨hq, hQ, a1, a2, a3, a4, hx, fun z => ?_⟩, fun z => ?_⟩
        · rcases hy with hy | hy
          · exact absurd hy z
          · exact hy.1
        · rcases hy with hy | hy
          · exact absurd hy z
          · exact hy.2
  by_cases hle : r ≤ 45 * d
  · obtain ⟨c, s, C, S, h, _⟩ := key r hle
    exact ⟨c, s, C, S, h⟩
  · obtain ⟨c, s, C, S, h, g⟩ := key (90 * d - r) (by omega)
    have hq := csQ_swap (by omega) h.q
    have hQ := csQ_swap (by omega) h.Q
    rw [show 90 * d - (90 * d - r) = r by omega] at hq hQ
    have g := g (by omega)
    exact ⟨s, c, S, C, hq, hQ, h.s1, h.c1, h.S1, h.C1, g.1, fun _ => g.2⟩
theorem fmod180 {n q : Int} {d r : Nat} (hd : 0 < d) (hn : n = 90 * q * d + r) (hr : r < 90 * d) : n.fmod (180 * d) = 90 * d ↔ (r = 0 ∧ (q.fmod 4 = 1 ∨ q.fmod 4 = 3)) := by
  have hp : (0 : Int) < 180 * d := by omega
  obtain ⟨k, hk⟩ : ∃ k : Int, q = 2 * k ∨ q = 2 * k + 1 := ⟨q / 2, by omega⟩
  have h4 : q.fmod 4 = q % 4 := Int.fmod_eq_emod_of_nonneg _ (by decide)
  rw [h4]
  rcases hk with rfl | rfl
  · have e : n = (r : Int) + 180 * d * k := by rw [hn]; grind
    have : n.fmod (180 * d) = r := by
      rw [e, Int.fmod_eq_emod_of_nonneg _ (by omega), Int.add_mul_emod_self_left, Int.emod_eq_of_lt (by omega) (by omega)]
    rw [this]
    omega
  · have e : n = (90 * d + r : Int) + 180 * d * k := by rw [hn]; grind
    have : n.fmod (180 * d) = 90 * d + r := by
      rw [e, Int.fmod_eq_emod_of_nonneg _ (by omega), Int.add_mul_emod_self_left, Int.emod_eq_of_lt (by omega) (by omega)]
    rw [this]
    omega
theorem frs_bd {q : Int} {c s bt : Nat} (hbt : 0 < bt) (hc : c ≤ bt) (hs : s ≤ bt) {c0 c1 s0 s1 : Int} (hx : rot4 (q.fmod 4) (frs c s bt) = (c0, c1, s0, s1)) : c0.natAbs ≤ bt ∧ c1.natAbs ≤ bt ∧ s0.natAbs ≤ bt ∧ s1.natAbs ≤ bt := by
  obtain ⟨g, k, g1, g2, D1, D2, D3, D4⟩ := rot_data hbt hx
  have bd := sg_bound (q := q) hc hs
  exact ⟨abs_le_mul g1 D1 bd.1, abs_le_mul g1 D2 (by omega), abs_le_mul g2 D3 bd.2, abs_le_mul g2 D4 (by omega)⟩
theorem ta_all {n : Int} {d : Nat} (hdk : DOk d) (hg : Int.gcd n (d : Int) = 1) (hn50 : n.natAbs < 2 ^ 50) :
    (∃ c1 s0 s1 : Int, toR n d 268435456 = some (0, c1, s0, s1) ∧ n.fmod (180 * d) = 90 * d) ∨
    (n.fmod (180 * d) ≠ 90 * d ∧ ∃ c0 c1 s0 s1 C0 C1 S0 S1 p q u v R x y : Int, toR n d 268435456 = some (c0, c1, s0, s1) ∧ toR n d 1073741824 = some (C0, C1, S0, S1) ∧
      (c0.natAbs ≤ 268435456 ∧ c1.natAbs ≤ 268435456 ∧ s0.natAbs ≤ 268435456 ∧ s1.natAbs ≤ 268435456) ∧ (C0.natAbs ≤ 1073741824 ∧ C1.natAbs ≤ 1073741824 ∧ S0.natAbs ≤ 1073741824 ∧ S1.natAbs ≤ 1073741824) ∧
      TaF c0 c1 s0 s1 C0 C1 S0 S1 p q u v R x y) := by
  have hd : 0 < d := by unfold DOk at hdk; omega
  have hd10 : d ≤ 10 := by unfold DOk at hdk; omega
  have T := taTab hdk
  have hall1 : ∀ r', r' ≤ 45 * d → ∀ c' s', cs r' d 268435456 = some (c', s') → c' ≤ 268435456 ∧ s' ≤ 268435456 := fun r' h => by
    have h1 := upTo_spec T r' h
    unfold chkT at h1
    simp only [Bool.and_eq_true] at h1
    exact smallN_spec h1.1.1
  have hall2 : ∀ r', r' ≤ 45 * d → ∀ c' s', cs r' d 1073741824 = some (c', s') → c' ≤ 1073741824 ∧ s' ≤ 1073741824 := fun r' h => by
    have h1 := upTo_spec T r' h
    unfold chkT at h1
    simp only [Bool.and_eq_true] at h1
    exact smallN_spec h1.1.2
  obtain ⟨q, r, en, hr, hq, hfm, hfd⟩ := split_n hd hn50
  obtain ⟨c, s, C, S, W⟩ := taRow T hr
  have z1 : r = 0 → c = 268435456 ∧ s = 0 := fun e => by
    have h := W.q
    rw [e, csQ_zero hd zero28] at h; cases h; exact ⟨rfl, rfl⟩
  have z2 : r = 0 → C = 1073741824 ∧ S = 0 := fun e => by
    have h := W.Q
    rw [e, csQ_zero hd zero30] at h; cases h; exact ⟨rfl, rfl⟩
  have k1 := toR_csQ hd (by decide) (by decide) en hr hg (by omega) (by omega) W.q z1 hall1
  have k2 := toR_csQ hd (by decide) (by decide) en hr hg (by omega) (by omega) W.Q z2 hall2
  obtain ⟨c0, c1, s0, s1, hx⟩ : ∃ c0 c1 s0 s1 : Int, rot4 (q.fmod 4) (frs c s 268435456) = (c0, c1, s0, s1) := ⟨_, _, _, _, rfl⟩
  obtain ⟨C0, C1, S0, S1, hy⟩ : ∃ c0 c1 s0 s1 : Int, rot4 (q.fmod 4) (frs C S 1073741824) = (c0, c1, s0, s1) := ⟨_, _, _, _, rfl⟩
  rw [hx] at k1
  rw [hy] at k2
  have key := fmod180 hd en hr
  by_cases hra : r = 0 ∧ (q.fmod 4 = 1 ∨ q.fmod 4 = 3)
  · left
    obtain ⟨a1, a2⟩ := z1 hra.1
    rw [a1, a2] at hx
    have h0 := rot4_zero (by decide) hx
    have : c0 = 0 := by omega
    subst this
    exact ⟨c1, s0, s1, k1, key.mpr hra⟩
  · right
    refine ⟨fun h => hra (key.mp h), ?_⟩
    have B1 := frs_bd (by decide) W.c1 W.s1 hx
    have B2 := frs_bd (by decide) W.C1 W.S1 hy
    have hA : taA (c0, c1, s0, s1) (C0, C1, S0, S1) = true := by
      rw [← hx, ← hy]
      have ev := W.ev
      unfold taX at ev
      rw [Bool.and_eq_true] at ev
      rcases fmod4_cases q with e | e | e | e
      · rw [e]; exact ev.1
      · have od := W.od (fun z => hra ⟨z, .inl e⟩)
        unfold taY at od
        rw [Bool.and_eq_true] at od
        rw [e]; exact od.1
      · rw [e]; exact ev.2
      · have od := W.od (fun z => hra ⟨z, .inr e⟩)
        unfold taY at od
        rw [Bool.and_eq_true] at od
        rw [e]; exact od.2
    obtain ⟨p, q', u, v, R, x, y, h⟩ := taA_spec hA
    exact ⟨c0, c1, s0, s1, C0, C1, S0, S1, p, q', u, v, R, x, y, k1, k2, B1, B2, h⟩
def XS : List (Int × Int) := [(0, 1), (1, 1), (2, 1), (3, 1), (4, 1), (5, 1), (6, 1), (-1, 1), (-2, 1), (-3, 1), (-4, 1), (-5, 1), (-6, 1), (1, 2), (3, 2), (5, 2), (-1, 2), (-3, 2), (-5, 2), (1, 3), (2, 3), (4, 3), (5, 3), (-1, 3), (-2, 3), (-4, 3), (-5, 3)]
def XE (t : Nat) (e : Int) : Bool := XS.contains (fracT ((t : Int) - 6) e, fracB ((t : Int) - 6) e)
theorem xe1 : upTo (fun t => XE t 1) 12 = true := by decide +kernel
theorem xe2 : upTo (fun t => XE t 2) 12 = true := by decide +kernel
theorem xe3 : upTo (fun t => XE t 3) 12 = true := by decide +kernel
theorem vp_mem {n d : Int} (h : VP n d) : (n, d) ∈ XS := by
  obtain ⟨t, e, h0, h1, he, rfl, rfl⟩ := h
  obtain ⟨k, rfl⟩ := Int.eq_ofNat_of_zero_le h0
  have hk : k ≤ 12 := by omega
  rcases he with rfl | rfl | rfl
  · exact List.contains_iff_mem.mp (upTo_spec xe1 k hk)
  · exact List.contains_iff_mem.mp (upTo_spec xe2 k hk)
  · exact List.contains_iff_mem.mp (upTo_spec xe3 k hk)
def bdB (x : Int) (n : Nat) : Bool := decide (x.natAbs < 2 ^ n)
theorem bdB_spec {x : Int} {n : Nat} (h : bdB x n = true) : x.natAbs < 2 ^ n := of_decide_eq_true h
structure VecGp (x0 x1 y0 y1 g0 g1 c0 c1 s0 s1 : Int) : Prop where
  H : dgR x0 x1 y0 y1 = some (g0, g1)
  p0 : 0 ≤ g0
  p1 : g0 < 360 * g1
  hg : 0 < g1
  nx : x0 ≠ 0
  ny : y0 ≠ 0
  nd : (if x0 < 0 then -x0 else x0) * y1 ≠ (if y0 < 0 then -y0 else y0) * x1
  T : toR g0 g1 1073741824 = some (c0, c1, s0, s1)
  ah : ¬ (x0 * y1 * c0 * s1 + y0 * x1 * s0 * c1 ≤ 0)
  ac : ¬ ((if (x0 * y1) < 0 then -(x0 * y1) else (x0 * y1)) + (if (y0 * x1) < 0 then -(y0 * x1) else (y0 * x1))) * c1 * s1 < (if (x0 * y1 * s0 * c1 - y0 * x1 * c0 * s1) < 0 then -(x0 * y1 * s0 * c1 - y0 * x1 * c0 * s1) else (x0 * y1 * s0 * c1 - y0 * x1 * c0 * s1)) * 3700000
  M : dgR x0 x1 (-y0) y1 = some (fracT (360 * g1 - g0) g1, fracB (360 * g1 - g0) g1)
  b0 : g0.natAbs < 2 ^ 60
  b1 : g1.natAbs < 2 ^ 60
  z1 : c0.natAbs < 2 ^ 60
  z2 : c1.natAbs < 2 ^ 60
  z3 : s0.natAbs < 2 ^ 60
  z4 : s1.natAbs < 2 ^ 60
structure VecAp (x0 x1 y0 y1 v : Int) : Prop where
  H : dgR x0 x1 y0 y1 = some (v, 1)
  v0 : 0 ≤ v
  v1 : v < 360 * 1
  c : x0 = 0 ∨ (x0 ≠ 0 ∧ y0 = 0) ∨ (x0 ≠ 0 ∧ y0 ≠ 0 ∧ (if x0 < 0 then -x0 else x0) * y1 = (if y0 < 0 then -y0 else y0) * x1)
  w : waysV (signV x0) (signV y0) = some v
def vG (x0 x1 y0 y1 g0 g1 : Int) : Option (Int × Int × Int × Int) → Option (Int × Int) → Bool
  | some t, some m => (decide (¬ (x0 * y1 * t.1 * t.2.2.2 + y0 * x1 * t.2.2.1 * t.2.1 ≤ 0)) && decide (¬ ((if (x0 * y1) < 0 then -(x0 * y1) else (x0 * y1)) + (if (y0 * x1) < 0 then -(y0 * x1) else (y0 * x1))) * t.2.1 * t.2.2.2 < (if (x0 * y1 * t.2.2.1 * t.2.1 - y0 * x1 * t.1 * t.2.2.2) < 0 then -(x0 * y1 * t.2.2.1 * t.2.1 - y0 * x1 * t.1 * t.2.2.2) else (x0 * y1 * t.2.2.1 * t.2.1 - y0 * x1 * t.1 * t.2.2.2)) * 3700000)) &&
      ((decide (m.1 = fracT (360 * g1 - g0) g1) && decide (m.2 = fracB (360 * g1 - g0) g1)) && ((bdB t.1 60 && bdB t.2.1 60) && (bdB t.2.2.1 60 && bdB t.2.2.2 60)))
  | _, _ => false
theorem vG_spec {x0 x1 y0 y1 g0 g1 : Int} {o : Option (Int × Int × Int × Int)} {q : Option (Int × Int)} (eo : toR g0 g1 1073741824 = o) (eq : dgR x0 x1 (-y0) y1 = q) (h : vG x0 x1 y0 y1 g0 g1 o q = true) (H : dgR x0 x1 y0 y1 = some (g0, g1))
    (p0 : 0 ≤ g0) (p1 : g0 < 360 * g1) (hg : 0 < g1) (b0 : g0.natAbs < 2 ^ 60) (b1 : g1.natAbs < 2 ^ 60) (nx : x0 ≠ 0) (ny : y0 ≠ 0) (nd : (if x0 < 0 then -x0 else x0) * y1 ≠ (if y0 < 0 then -y0 else y0) * x1) : ∃ c0 c1 s0 s1, VecGp x0 x1 y0 y1 g0 g1 c0 c1 s0 s1 := by
  cases o with
  | none => cases h
  | some t =>
    cases q with
    | none => cases h
    | some m =>
      obtain ⟨c0, c1, s0, s1⟩ := t
      obtain ⟨m0, m1⟩ := m
      unfold vG at h
      simp only [Bool.and_eq_true, decide_eq_true_eq] at h
      obtain ⟨⟨h1, h2⟩, ⟨h3, h4⟩, ⟨h5, h6⟩, h7, h8⟩ := h
      exact ⟨c0, c1, s0, s1, H, p0, p1, hg, nx, ny, nd, eo, h1, h2, by rw [eq, h3, h4], b0, b1, bdB_spec h5, bdB_spec h6, bdB_spec h7, bdB_spec h8⟩
def vD (x0 x1 y0 y1 : Int) : Option (Int × Int) → Bool
  | none => false
  | some g => ((decide (0 ≤ g.1) && decide (g.1 < 360 * g.2)) && (decide (0 < g.2) && (bdB g.1 60 && bdB g.2 60))) &&
      bif decide (x0 = 0) || (decide (y0 = 0) || decide ((if x0 < 0 then -x0 else x0) * y1 = (if y0 < 0 then -y0 else y0) * x1)) then decide (g.2 = 1) && decide (waysV (signV x0) (signV y0) = some g.1)
      else vG x0 x1 y0 y1 g.1 g.2 (toR g.1 g.2 1073741824) (dgR x0 x1 (-y0) y1)
theorem vD_spec {x0 x1 y0 y1 : Int} {o : Option (Int × Int)} (eo : dgR x0 x1 y0 y1 = o) (h : vD x0 x1 y0 y1 o = true) : (∃ v, VecAp x0 x1 y0 y1 v) ∨ ∃ g0 g1 c0 c1 s0 s1, VecGp x0 x1 y0 y1 g0 g1 c0 c1 s0 s1 := by
  cases o with
  | none => cases h
  | some g =>
    obtain ⟨g0, g1⟩ := g
    unfold vD at h
    rw [Bool.and_eq_true] at h
    obtain ⟨ha, hb⟩ := h
    simp only [Bool.and_eq_true, decide_eq_true_eq] at ha
    obtain ⟨⟨h1, h2⟩, h3, h4, h5⟩ := ha
    dsimp only at hb
    cases hc : (decide (x0 = 0) || (decide (y0 = 0) || decide ((if x0 < 0 then -x0 else x0) * y1 = (if y0 < 0 then -y0 else y0) * x1))) with
    | true =>
      rw [hc] at hb
      have hb : (decide (g1 = 1) && decide (waysV (signV x0) (signV y0) = some g0)) = true := hb
      simp only [Bool.and_eq_true, decide_eq_true_eq] at hb
      obtain ⟨e1, e2⟩ := hb
      subst e1
      simp only [Bool.or_eq_true, decide_eq_true_eq] at hc
      refine .inl ⟨g0, eo, h1, h2, ?_, e2⟩
      by_cases q0 : x0 = 0
      · exact .inl q0
      by_cases q1 : y0 = 0
      · exact .inr (.inl ⟨q0, q1⟩)
      · rcases hc with hc | hc | hc
        · exact absurd hc q0
        · exact absurd hc q1
        · exact .inr (.inr ⟨q0, q1, hc⟩)
    | false =>
      rw [hc] at hb
      have hb : vG x0 x1 y0 y1 g0 g1 (toR g0 g1 1073741824) (dgR x0 x1 (-y0) y1) = true := hb
      simp only [Bool.or_eq_false_iff, decide_eq_false_iff_not] at hc
      obtain ⟨q0, q1, q2⟩ := hc
      obtain ⟨c0, c1, s0, s1, r⟩ := vG_spec rfl rfl hb eo h1 h2 h3 (bdB_spec h4) (bdB_spec h5) q0 q1 q2
      exact .inr ⟨g0, g1, c0, c1, s0, s1, r⟩
def vB (x0 x1 y0 y1 : Int) : Bool := (decide (0 < x1) && decide (0 < y1)) && (((bdB x0 39 && bdB x1 39) && (bdB y0 39 && bdB y1 39)) && ((decide (x0 = 0) && decide (y0 = 0)) || vD x0 x1 y0 y1 (dgR x0 x1 y0 y1)))
def VecOkp (x0 x1 y0 y1 : Int) : Prop := (0 < x1 ∧ 0 < y1 ∧ x0.natAbs < 2 ^ 39 ∧ x1.natAbs < 2 ^ 39 ∧ y0.natAbs < 2 ^ 39 ∧ y1.natAbs < 2 ^ 39) ∧ ((x0 = 0 ∧ y0 = 0) ∨ (¬ (x0 = 0 ∧ y0 = 0) ∧ ((∃ v, VecAp x0 x1 y0 y1 v) ∨ ∃ g0 g1 c0 c1 s0 s1, VecGp x0 x1 y0 y1 g0 g1 c0 c1 s0 s1)))
theorem vB_spec {x0 x1 y0 y1 : Int} (h : vB x0 x1 y0 y1 = true) : VecOkp x0 x1 y0 y1 := by
  unfold vB at h
  rw [Bool.and_eq_true, Bool.and_eq_true, Bool.and_eq_true, Bool.and_eq_true, Bool.and_eq_true, Bool.or_eq_true, Bool.and_eq_true] at h
  obtain ⟨⟨h1, h2⟩, ⟨⟨h3, h4⟩, h5, h6⟩, h7⟩ := h
  refine ⟨⟨of_decide_eq_true h1, of_decide_eq_true h2, bdB_spec h3, bdB_spec h4, bdB_spec h5, bdB_spec h6⟩, ?_⟩
  by_cases hz : x0 = 0 ∧ y0 = 0
  · exact .inl hz
  · refine .inr ⟨hz, ?_⟩
    rcases h7 with h7 | h7
    · rw [Bool.and_eq_true] at h7
      exact absurd ⟨of_decide_eq_true h7.1, of_decide_eq_true h7.2⟩ hz
    · exact vD_spec rfl h7
def vRow (x0 x1 : Int) : Bool := XS.all fun y => vB x0 x1 y.1 y.2
theorem vt_0 : vRow (0) 1 = true := by decide +kernel
theorem vt_1 : vRow (1) 1 = true := by decide +kernel
theorem vt_2 : vRow (2) 1 = true := by decide +kernel
theorem vt_3 : vRow (3) 1 = true := by decide +kernel
theorem vt_4 : vRow (4) 1 = true := by decide +kernel
theorem vt_5 : vRow (5) 1 = true := by decide +kernel
theorem vt_6 : vRow (6) 1 = true := by decide +kernel
theorem vt_7 : vRow (-1) 1 = true := by decide +kernel
theorem vt_8 : vRow (-2) 1 = true := by decide +kernel
theorem vt_9 : vRow (-3) 1 = true := by decide +kernel
theorem vt_10 : vRow (-4) 1 = true := by decide +kernel
theorem vt_11 : vRow (-5) 1 = true := by decide +kernel
theorem vt_12 : vRow (-6) 1 = true := by decide +kernel
theorem vt_13 : vRow (1) 2 = true := by decide +kernel
theorem vt_14 : vRow (3) 2 = true := by decide +kernel
theorem vt_15 : vRow (5) 2 = true := by decide +kernel
theorem vt_16 : vRow (-1) 2 = true := by decide +kernel
theorem vt_17 : vRow (-3) 2 = true := by decide +kernel
theorem vt_18 : vRow (-5) 2 = true := by decide +kernel
theorem vt_19 : vRow (1) 3 = true := by decide +kernel
theorem vt_20 : vRow (2) 3 = true := by decide +kernel
theorem vt_21 : vRow (4) 3 = true := by decide +kernel
theorem vt_22 : vRow (5) 3 = true := by decide +kernel
theorem vt_23 : vRow (-1) 3 = true := by decide +kernel
theorem vt_24 : vRow (-2) 3 = true := by decide +kernel
theorem vt_25 : vRow (-4) 3 = true := by decide +kernel
theorem vt_26 : vRow (-5) 3 = true := by decide +kernel
theorem vec_law {x0 x1 y0 y1 : Int} (hx : VP x0 x1) (hy : VP y0 y1) : VecOkp x0 x1 y0 y1 := by
  have hy := vp_mem hy
  have hx := vp_mem hx
  have key : vRow x0 x1 = true := by
    simp only [XS, List.mem_cons, List.not_mem_nil, or_false, Prod.mk.injEq] at hx
    rcases hx with ⟨rfl, rfl⟩ | ⟨rfl, rfl⟩ | ⟨rfl, rfl⟩ | ⟨rfl, rfl⟩ | ⟨rfl, rfl⟩ | ⟨rfl, rfl⟩ | ⟨rfl, rfl⟩ | ⟨rfl, rfl⟩ | ⟨rfl, rfl⟩ | ⟨rfl, rfl⟩ | ⟨rfl, rfl⟩ | ⟨rfl, rfl⟩ | ⟨rfl, rfl⟩ | ⟨rfl, rfl⟩ | ⟨rfl, rfl⟩ | ⟨rfl, rfl⟩ | ⟨rfl, rfl⟩ | ⟨rfl, rfl⟩ | ⟨rfl, rfl⟩ | ⟨rfl, rfl⟩ | ⟨rfl, rfl⟩ | ⟨rfl, rfl⟩ | ⟨rfl, rfl⟩ | ⟨rfl, rfl⟩ | ⟨rfl, rfl⟩ | ⟨rfl, rfl⟩ | ⟨rfl, rfl⟩
    · exact vt_0
    · exact vt_1
    · exact vt_2
    · exact vt_3
    · exact vt_4
    · exact vt_5
    · exact vt_6
    · exact vt_7
    · exact vt_8
    · exact vt_9
    · exact vt_10
    · exact vt_11
    · exact vt_12
    · exact vt_13
    · exact vt_14
    · exact vt_15
    · exact vt_16
    · exact vt_17
    · exact vt_18
    · exact vt_19
    · exact vt_20
    · exact vt_21
    · exact vt_22
    · exact vt_23
    · exact vt_24
    · exact vt_25
    · exact vt_26
  exact vB_spec (List.all_eq_true.mp key (y0, y1) hy)
end
section
theorem bt_le {x : Int} {m n : Nat} (h : x.natAbs < 2 ^ m) (hn : m ≤ n := by decide) : PySem.Builtin.Int.intBits x ≤ n := Nat.le_trans (bits_of_lt h) hn
theorem lt_60 {x : Int} {b : Nat} (h : x.natAbs ≤ b) (hb : b < 2 ^ 60 := by decide) : x.natAbs < 2 ^ 60 := Nat.lt_of_le_of_lt h hb
/-- what is known of degrees that are drawn -/
structure DrawF (n d : Int) : Prop where
  pos : 0 < d
  dk : ∃ e : Nat, d = e ∧ DOk e
  gcd : Int.gcd n d = 1
  n50 : n.natAbs < 2 ^ 50
  d50 : d.natAbs < 2 ^ 50
theorem draw_ok {n d : Int} (h : DegP n d) : DrawF n d := by
  obtain ⟨e, rfl, k, g, z⟩ := degP_ok h
  have : 0 < e ∧ e ≤ 10 := by unfold DOk at k; omega
  exact ⟨by omega, ⟨e, rfl, k⟩, g, z, by omega⟩
theorem btOk_b {b : Nat} (hb : BtOk b) : (0 : Int) < (b : Int) ∧ ((b : Nat) : Int).natAbs < 2 ^ 50 := by
  unfold BtOk at hb
  rcases hb with rfl | rfl | rfl | rfl <;> decide
theorem na_add {a e : Int} {k : Nat} (h1 : a.natAbs < 2 ^ 50) (h2 : e.natAbs < 2 ^ 50) (hk : k < 2 ^ 9) : (a + (k : Int) * e).natAbs < 2 ^ 60 := by
  refine Nat.lt_of_le_of_lt (Int.natAbs_add_le _ _) ?_
  rw [Int.natAbs_mul, Int.natAbs_natCast]
  have h3 : k * e.natAbs ≤ 2 ^ 9 * 2 ^ 50 := Nat.mul_le_mul (Nat.le_of_lt hk) (Nat.le_of_lt h2)
  exact Nat.lt_of_lt_of_le (Nat.add_lt_add_of_lt_of_le h1 h3) (by decide)
theorem more_id {n d : Int} (k : Int) (D : DrawF n d) : fracT (n + k * d) d = n + k * d ∧ fracB (n + k * d) d = d := frac_id D.pos (gcd_add_mul k D.gcd)
theorem more_idn {n d : Int} (k : Int) (D : DrawF n d) : fracT (-n + k * d) d = -n + k * d ∧ fracB (-n + k * d) d = d := frac_id D.pos (gcd_add_mul k (gcd_neg1 D.gcd))
section
variable {w : World} {news : List (Addr × Obj)} {pa : Addr} {a0 a1 : Int} {ta ua : Tok} {t1 : Tok}
theorem j_turn (ha : (pa, pairObj (.int a0 ta) (.int a1 ua)) ∈ news) (D : DrawF a0 a1) {b : Nat} (hb : BtOk b) : Cut w 255 10 news [.ref pa, .int ((b : Nat) : Int) t1] (OBool true) := by
  obtain ⟨hb0, hb1⟩ := btOk_b hb
  obtain ⟨hd, ⟨e, rfl, hk⟩, hg, z1, z2⟩ := id D
  obtain ⟨c0, c1, s0, s1, w0, w1, h0, h1, R, _⟩ := tr_all hb hk hg z1
  have m1 := more_id 360 D
  have m2 := more_id 90 D
  have m3 := more_idn 90 D
  refine cut_tr ha R.H0 R.hm1 R.hm2 (Int.ne_of_gt R.p1) (Int.ne_of_gt R.p2) R.hn m1.1 m1.2 R.H1 m2.1 m2.2 R.H2 R.H3 m3.1 m3.2 R.H4 rfl rfl ?_ hd hd hd hd hb0 (bt_le z1) (bt_le z2) (bt_le (m := 50) hb1) R.w1 R.w2 R.w3 R.w4 (bt_le (na_add (k := 360) z1 z2 (by decide))) (bt_le z2) (bt_le (na_add (k := 90) z1 z2 (by decide))) (bt_le z2) (bt_le (na_add (k := 90) (by rw [Int.natAbs_neg]; exact z1) z2 (by decide))) (bt_le z2)
  rcases R.ax with hz | ⟨hz, ⟨hv, d1, d2, d3, d4⟩ | ⟨hv, d1, d2, d3, d4⟩ | ⟨hv, d1, d2, d3, d4⟩ | ⟨hv, d1, d2, d3, d4⟩⟩
  · exact .inl hz
  · exact .inr ⟨hz, d2, d4, .inl ⟨hv, d1, d3⟩⟩
  · exact .inr ⟨hz, d2, d4, .inr (.inl ⟨hv, d1, d3⟩)⟩
  · exact .inr ⟨hz, d2, d4, .inr (.inr (.inl ⟨hv, d1, d3⟩))⟩
  · exact .inr ⟨hz, d2, d4, .inr (.inr (.inr ⟨hv, d1, d3⟩))⟩
theorem j_twice (ha : (pa, pairObj (.int a0 ta) (.int a1 ua)) ∈ news) (D : DrawF a0 a1) {b : Nat} (hb : BtOk b) : Cut w 262 10 news [.ref pa, .int ((b : Nat) : Int) t1] (OBool true) := by
  obtain ⟨hbt, hb1⟩ := btOk_b hb
  obtain ⟨hd, ⟨e, rfl, hk⟩, hg, z1, z2⟩ := id D
  obtain ⟨c0, c1, s0, s1, w0, w1, h0, h1, R, W⟩ := tr_all hb hk hg z1
  have zb : Bt 60 ((b : Nat) : Int) := bt_le (m := 50) hb1
  have x1 : (2 * a0).natAbs < 2 ^ 60 := by omega
  exact cut_twice ha R.H0 rfl rfl W.H1 W.n1 W.n2 hd W.y hbt (bt_le z1) (bt_le z2) zb (bits_fracT (bt_le x1)) (bits_fracB (bt_le z2)) R.w1 R.w2 R.w3 R.w4 (bt_le W.u1) (bt_le W.u2) (bt_le W.u3) (bt_le W.u4)
theorem j_known {b : Nat} (hb : BtOk b) : Cut w 269 10 news [.int ((b : Nat) : Int) t1] (OBool true) := by
  obtain ⟨hbt, hb1⟩ := btOk_b hb
  obtain ⟨c0, c1, s0, s1, K⟩ := kn_all hb
  exact cut_known K.H0 K.n1 K.n2 hbt (bt_le (m := 50) hb1) K.w1 K.w2 K.w3 K.w4
theorem j_tan (ha : (pa, pairObj (.int a0 ta) (.int a1 ua)) ∈ news) (D : DrawF a0 a1) : CutT w 281 10 news [.ref pa] (OBool true) := by
  obtain ⟨hd, ⟨e, rfl, hk⟩, hg, z1, z2⟩ := id D
  rcases ta_all hk hg z1 with ⟨c1, s0, s1, H, hm⟩ | ⟨hm, c0, c1, s0, s1, C0, C1, S0, S1, p, q, u, v, R, x, y, H, H2, ⟨b1, b2, b3, b4⟩, ⟨B1, B2, B3, B4⟩, K⟩
  · exact cutT_tan_0 ha H rfl hd (bt_le z1) (bt_le z2) hm
  · refine Cut.toT ?_
    rcases K.nr with hlt | ⟨f0, f1, hlt, g1, g2, g3, hnr, v1, v2⟩
    · exact cut_tan_1 ha H K.hc K.hs K.e1 K.e2 K.e3 K.e4 K.e5 K.e6 K.e7 hd (bt_le z1) (bt_le z2) (bt_le (lt_60 b1)) (bt_le (lt_60 b2)) (bt_le (lt_60 b3)) (bt_le (lt_60 b4)) hm H2 (bt_le (lt_60 B1)) (bt_le (lt_60 B2)) (bt_le (lt_60 B3)) (bt_le (lt_60 B4)) (bt_le K.b1) (bt_le K.b2) hlt
    · exact cut_tan_2 ha H K.hc K.hs K.e1 K.e2 K.e3 K.e4 K.e5 K.e6 K.e7 hd (bt_le z1) (bt_le z2) (bt_le (lt_60 b1)) (bt_le (lt_60 b2)) (bt_le (lt_60 b3)) (bt_le (lt_60 b4)) hm H2 (bt_le (lt_60 B1)) (bt_le (lt_60 B2)) (bt_le (lt_60 B3)) (bt_le (lt_60 B4)) (bt_le K.b1) (bt_le K.b2) hlt g1 g2 g3 hnr (bt_le v1) (bt_le v2)
end
/-- the pool's contract, whatever the script -/
theorem j_pool {w : World} {sc : Addr} {us : List Value} {ns : List Int} {news : List (Addr × Obj)} {k : Int} {t1 : Tok} (hk0 : 0 ≤ k) (hk1 : k < 10) (hus : us.length < 2 ^ 62) (hI : IntsAre us ns) (hL : (PyData.list (List.map PyData.int ns)).layable0 = true) : CutL w 206 2 sc us news [.ref sc, .int k t1] := by
  by_cases hi : k < (us.length : Int)
  · have hlt : k.toNat < us.length := by omega
    obtain ⟨x, tx, hx, hm⟩ : ∃ x tx, us[k.toNat]? = some (.int x tx) ∧ x ∈ ns := by
      obtain ⟨x, tx, e, hn⟩ := IntsAre.at hI k.toNat us[k.toNat] (List.getElem?_eq_getElem hlt)
      exact ⟨x, tx, by rw [List.getElem?_eq_getElem hlt, e], List.mem_of_getElem? hn⟩
    exact cut_pool_in hk0 hk1 hus hi hx (intBits_le_of_item hm hL)
  · exact cut_pool_out hk0 hk1 hus hi
end
section
theorem j_vec : VecLaw := by
  intro x0 x1 y0 y1 hx hy
  obtain ⟨⟨a1, a2, a3, a4, a5, a6⟩, h⟩ := vec_law hx hy
  refine ⟨⟨a1, a2, bt_le a3, bt_le a4, bt_le a5, bt_le a6⟩, ?_⟩
  rcases h with h | ⟨hn, h⟩
  · exact .inl h
  · refine .inr ⟨hn, ?_⟩
    rcases h with ⟨v, R⟩ | ⟨g0, g1, c0, c1, s0, s1, R⟩
    · refine .inl ⟨v, R.H, R.v0, R.v1, R.c, ?_, R.w⟩
      by_cases q : x0 = 0
      · exact .inr ⟨q, fun e => hn ⟨q, e⟩⟩
      · exact .inl q
    · exact .inr ⟨g0, g1, c0, c1, s0, s1, R.H, R.p0, R.p1, R.hg, R.nx, R.ny, R.nd, R.T, R.ah, R.ac, R.M, bt_le R.b0, bt_le R.b1, bt_le R.z1, bt_le R.z2, bt_le R.z3, bt_le R.z4⟩
theorem j_vector {w : World} {news : List (Addr × Obj)} {l : Addr} {a b : Int} (So : SrcOk a b) : CutV w 274 12 l a b news [.ref l] (fun r => r = .bool true) := cut_vector So j_vec
end
section
section
variable {w : World} {f : Addr} {k : Nat} {sc l : Addr} {us : List Value} {a b : Int} {o : Obj} {ta tb : Tok} {news big : List (Addr × Obj)} {vs : List Value} {mean : ExcName → Option Value} {mg mb : PySem.Str → Option Value} {dp un : Nat} {gd : Option (List Code)} {cn : PySem.Str} {cs : Scope} {c : Addr} {ccd : Value} {cl : List (PySem.Str × Addr)} {outer : List Env} {A₀ : Around} {base h₀ h : Heap} {L : Addr} {m : PySem.Str → Option Value} {s : Shared} {Q E : Value → Shared → Prop}
theorem use_src (C : CutL w f k sc us news vs) (hl : base.IsList sc us.toArray) (B : Below A₀ base outer h₀) (F : Fr h₀ L s.heap m) (X : (hd.heap_39 w.params).In h₀) (N : News h₀ L s.heap news) (T : Top hd.view_39 LS mean mg mb h₀) (hk : cs.kind = .function) (hdp : dp + k < recursionLimit) (hun : un + 8 * k < cLine)
    (h : ∀ l o a b t u h' tk', Fr h₀ L h' m → News h₀ L h' ((l, o) :: news) → (∀ p ∈ news, p.1 < l) → Src o a b t u → SrcOk a b → Q (.ref l) { s with heap := h', toks := tk' }) :
    wpAny (model PySem.Challenge.rw_nu0010_01.row.prog w) (ktrTop dp un gd cn cs L c ccd cl outer) (call (.ref f) vs) Q E s :=
  C _ _ _ _ _ _ _ _ _ _ _ _ _ _ _ _ _ _ _ _ hl B F X N T hk hdp hun h
theorem use_boolT {x : Bool} (C : CutT w f k news vs (OBool x)) (B : Below A₀ h₀ [] h₀) (F : Fr h₀ L s.heap m) (X : (hd.heap_39 w.params).In h₀) (N : News h₀ L s.heap news) (T : Top hd.view_39 LS mean mg mb h₀) (hk : cs.kind = .function) (hdp : dp + k < recursionLimit) (hun : un + 8 * k < cLine)
    (h : ∀ h' tk', Fr h₀ L h' m → News h₀ L h' news → Q (.bool x) { s with heap := h', toks := tk' }) :
    wpAny (model PySem.Challenge.rw_nu0010_01.row.prog w) (ktrTop dp un gd cn cs L c ccd [] []) (call (.ref f) vs) Q E s :=
  C _ _ _ _ _ _ _ _ _ _ _ _ _ _ _ _ _ B F X N T hk hdp hun fun r tl h' tk' F' N' o => by
    obtain ⟨rfl, rfl⟩ := o
    exact h h' tk' F' N'
theorem use_vec (C : CutV w f k l a b news vs (fun r => r = .bool true)) (B : Below A₀ h₀ [] h₀) (F : Fr h₀ L s.heap m) (X : (hd.heap_39 w.params).In h₀) (N : News h₀ L s.heap big) (T : Top hd.view_39 LS mean mg mb h₀) (hk : cs.kind = .function) (hdp : dp + k < recursionLimit) (hun : un + 8 * k < cLine)
    (S : Src o a b ta tb) (hl : (l, o) ∈ big) (W : WS l big news)
    (h : ∀ h' tk', Fr h₀ L h' m → News h₀ L h' news → Q (.bool true) { s with heap := h', toks := tk' }) :
    wpAny (model PySem.Challenge.rw_nu0010_01.row.prog w) (ktrTop dp un gd cn cs L c ccd [] []) (call (.ref f) vs) Q E s :=
  C o ta tb _ _ _ _ _ _ _ _ _ _ _ _ _ _ _ _ _ S (W.ne N hl S) B F X (fun p hp => by
    rcases List.mem_cons.mp hp with rfl | hp
    · exact N _ hl
    · exact N p (W.1 p hp)) T hk hdp hun fun r h' tk' F' N' e => by
    subst e
    exact h h' tk' F' N'
end
section
variable {prog : Program} {w : World} {A : Around} {E : Value → Shared → Prop} {s : Shared} {h₀ : Heap} {L : Addr} {m : PySem.Str → Option Value} {news : List (Addr × Obj)}
theorem max_v {a b v : Int} {t u : Tok} {Q : Value → Shared → Prop} (hh : A.handled = none) (F : Fr h₀ L s.heap m) (N : News h₀ L s.heap news) (e : (if b > a then b else a) = v)
    (h : ∀ h' t tk, Fr h₀ L h' m → News h₀ L h' news → Q (.int v t) { s with heap := h', toks := tk }) : wpAny (model prog w) A (call (.builtin "max") [.int a t, .int b u]) Q E s :=
  max_two_N hh F N fun h' tk F' N' => by rw [e]; exact h h' _ tk F' N'
theorem min_v {a b v : Int} {t u : Tok} {Q : Value → Shared → Prop} (hh : A.handled = none) (F : Fr h₀ L s.heap m) (N : News h₀ L s.heap news) (e : (if b < a then b else a) = v)
    (h : ∀ h' t tk, Fr h₀ L h' m → News h₀ L h' news → Q (.int v t) { s with heap := h', toks := tk }) : wpAny (model prog w) A (call (.builtin "min") [.int a t, .int b u]) Q E s :=
  min_two_N hh F N fun h' tk F' N' => by rw [e]; exact h h' _ tk F' N'
end
theorem ws_lt {l : Addr} {r : List (Addr × Obj)} (h : ∀ p ∈ r, p.1 < l) : WS l r r := WS.tail fun p hp => Nat.ne_of_lt (h p hp)
theorem WS.nil {l : Addr} : WS l [] [] := WS.tail fun _ hp => nomatch hp
theorem menuB {r : Value} {a b c d : Tok} (h : r ∈ ([.int 256 a, .int 4096 b, .int 65536 c, .int 1000 d] : List Value)) : ∃ (e : Nat) (t : Tok), r = .int (e : Int) t ∧ BtOk e := by
  simp only [List.mem_cons, List.not_mem_nil, or_false] at h
  rcases h with rfl | rfl | rfl | rfl
  · exact ⟨256, a, rfl, .inl rfl⟩
  · exact ⟨4096, b, rfl, .inr (.inl rfl)⟩
  · exact ⟨65536, c, rfl, .inr (.inr (.inl rfl))⟩
  · exact ⟨1000, d, rfl, .inr (.inr (.inr rfl))⟩
def TurnPost (h₀ : Heap) (L : Addr) (x : PySem.Str) (stored : List PySem.Str) (m₀ : PySem.Str → Option Value) (own : List (Addr × Obj)) (s₁ : Shared) (Q : Flow → Shared → Prop) (f : Flow) (s₂ : Shared) : Prop :=
  match f with
  | .ret v => Q (.ret v) s₂
  | .brk => Q .next s₂
  | _ => ∃ h' tk m', s₂ = { s₁ with heap := h', toks := tk } ∧ Fr h₀ L h' m' ∧ News h₀ L h' own ∧ ∀ z, z ≠ x → stored.contains z = false → m' z = m₀ z
theorem turn_end {h₀ : Heap} {L : Addr} {x : PySem.Str} {stored : List PySem.Str} {m₀ m' : PySem.Str → Option Value} {own big : List (Addr × Obj)} {s₁ : Shared} {Q : Flow → Shared → Prop} {h' : Heap} {tk : Nat}
    (F : Fr h₀ L h' m') (N : News h₀ L h' big) (sub : ∀ p ∈ own, p ∈ big) (j : ∀ z, z ≠ x → stored.contains z = false → m' z = m₀ z) : TurnPost h₀ L x stored m₀ own s₁ Q .next { s₁ with heap := h', toks := tk } :=
  ⟨h', tk, m', rfl, F, fun p hp => N p (sub p hp), j⟩
theorem law_inv {prog : Program} {w : World} {A : Around} {env : Env} {h₀ : Heap} {x : PySem.Str} {body : List Stmt} {Q : Flow → Shared → Prop} {E : Value → Shared → Prop} {s : Shared} {r : Addr} {v : Int} {t₀ u₀ v₀ : Tok} {m₀ : PySem.Str → Option Value} (stored : List PySem.Str)
    (hh : A.handled = none) (hr : IsRange s.heap r 0 v 1 t₀ u₀ v₀) (hv : v = 1 ∨ v = 2) (F : Fr h₀ env.locals s.heap m₀)
    (turn : ∀ k t (u : PySem.Str → Option Value) h tk own, 0 ≤ k → k < 10 → Fr h₀ env.locals h (fun y => if y = x then some (.int k t) else if stored.contains y then u y else m₀ y) → News h₀ env.locals h own →
      wpAny (model prog w) A (execs body env) (TurnPost h₀ env.locals x stored m₀ own { s with heap := h, toks := tk } Q) E { s with heap := h, toks := tk })
    (done : ∀ m' h tk, Fr h₀ env.locals h m' → Q .next { s with heap := h, toks := tk }) :
    wpAny (model prog w) A (pyIter (.ref r)) (fun it s₂ => LoopAtV prog w A h₀ env x body Q E it s₂) E s := by
  refine kpr_invN (n := v.toNat) (news := []) (fun _ m nx => nx = [] ∧ ∀ z, z ≠ x → stored.contains z = false → m z = m₀ z) hh hr (by rcases hv with rfl | rfl <;> decide) (by rcases hv with rfl | rfl <;> decide) F (fun _ hp => nomatch hp) ⟨rfl, fun _ _ _ => rfl⟩ ?_ (fun m₁ nx h tk _ F₁ _ => done m₁ h tk F₁)
  rintro i k t m₁ nx h tk own hk _ ⟨rfl, hm⟩ F₁ N₁
  have hi : i < v.toNat ∧ k = 0 + (i : Int) := by
    simp only [rangeKs, List.getElem?_map, Option.map_eq_some_iff] at hk
    obtain ⟨j, hj, rfl⟩ := hk
    have hlt := (List.getElem?_eq_some_iff.mp hj).1
    have hj2 := (List.getElem?_eq_some_iff.mp hj).2
    simp only [List.length_range, List.getElem_range] at hlt hj2
    subst hj2
    exact ⟨hlt, rfl⟩
  have e : (fun y => if y = x then some (Value.int k t) else m₁ y) = fun y => if y = x then some (Value.int k t) else if stored.contains y then m₁ y else m₀ y := by
    funext y
    by_cases h1 : y = x
    · simp only [if_pos h1]
    · simp only [if_neg h1]
      cases h2 : stored.contains y with
      | true => rw [if_pos rfl]
      | false => rw [if_neg (by decide)]; exact hm y h1 h2
  rw [e] at F₁
  refine wpAny_mono (turn k t m₁ h tk own (by omega) (by omega) F₁ (fun p hp => N₁ p hp)) (fun f s₂ p => ?_) fun _ _ x => x
  have fin : (∃ h' tk' m', s₂ = { ({ s with heap := h, toks := tk } : Shared) with heap := h', toks := tk' } ∧ Fr h₀ env.locals h' m' ∧ News h₀ env.locals h' own ∧ ∀ z, z ≠ x → stored.contains z = false → m' z = m₀ z) →
      InvEndN h₀ env.locals (fun m nx => nx = [] ∧ ∀ z, z ≠ x → stored.contains z = false → m z = m₀ z) own (([] : List (Addr × Obj)).map (·.1)) { s with heap := h, toks := tk } s₂ := by
    rintro ⟨h', tk', m', e', F', N', hm'⟩
    exact ⟨h', tk', m', own, [], e', F', N', (fun _ hp => nomatch hp), (fun _ hp => hp), rfl, rfl, hm'⟩
  cases f with
  | ret v => exact p
  | brk => exact p
  | next => exact fin p
  | cont => exact fin p
theorem len_cases {us : List Value} {ns : List Int} (hI : IntsAre us ns) (h : ¬ (63 : Int) < (ns.length : Int)) : us.length < 2 ^ 62 ∧ ∃ v m : Int, (if (2 : Int) < (us.length : Int) then (2 : Int) else (us.length : Int)) = m ∧ (if m > 1 then m else 1) = v ∧ (v = 1 ∨ v = 2) := by
  have e : us.length = ns.length := hI.length
  refine ⟨by omega, _, _, rfl, rfl, ?_⟩
  split <;> split <;> omega
set_option maxRecDepth 100000 in
set_option maxHeartbeats 8000000 in
theorem law_holds : PySem.Challenge.rw_nu0010_01.Holds := by
  k_with_none
  k_with "ktr_room" => (first | exact dp_le (by with_reducible assumption) (by decide) | exact dp_le0 (by with_reducible assumption) (by decide) | exact Nat.lt_of_le_of_lt (Nat.le_add_right _ _) (by with_reducible assumption) | fail "room")
  k_with "ktr_units" => (first | exact un_le (by with_reducible assumption) (by decide) | exact un_le0 (by with_reducible assumption) (by decide) | exact Nat.lt_of_le_of_lt (Nat.le_add_right _ _) (by with_reducible assumption) | fail "units")
  k_with "k_slotset" => (intro p hp; repeat (first | exact hp | refine List.mem_cons_of_mem _ ?_))
  k_with "k_put" => (first | with_reducible rfl | omega | assumption | (simp only [Int.mul_one, Int.one_mul]; done) | (simp only [signV]; (repeat' split) <;> first | with_reducible rfl | omega) | k_extra "EQ")
  k_with "bits_by_make" => (first | with_reducible assumption | ((with_reducible apply bits_fracT); bits_by_make) | ((with_reducible apply bits_fracB); bits_by_make) | exact PySem.intBits_le_64 (by decide) (by decide) | exact PySem.intBits_le_64 (by omega) (by omega) | exact bits_lit200 (by decide +kernel) | fail "bits")
  k_with "k_slotget" => (first | exact List.mem_cons_self | with_reducible assumption | (refine' List.mem_cons_of_mem _ ?_; k_slotget) | fail "mem")
  k_with "subscriptTail Name Constant ref int" => (k_here; k_dflt (refine' item_tupleT (News.isTup ?zqn ?zqm) ?zqa ?zqb ?zqc ?zqd ?_; (case zqn => k_asm); (case zqm => k_slotget); (case zqa => decide); (case zqb => decide); (case zqc => exact rfl); (case zqd => exact rfl); k_whole))
  k_with "execs cons" => (with_reducible refine gen_toks3 (fun tk' => ?_))
  k_with "execs nil" => (with_reducible refine gen_toks3 (fun tk' => ?_))
  k_with "eval Name" => (k_here; k_dflt (first   | (refine' ld ?zqk1 ?zqk2 ?_; (case zqk1 => k_asm); (case zqk2 => exact rfl); k_whole)   | (refine' name_K ?zqkF ?zqk1 ?zqk2 ?zqk3 ?_; (case zqkF => k_asm); (case zqk1 => k_asm); (case zqk2 => k_asm); (case zqk3 => k_is); k_whole)))
  k_with "k_get" => (first | with_reducible assumption | k_slotget | exact Nat.le_trans (by with_reducible assumption) (by decide) | k_extra "P" | decide | omega | (refine intBits_le_64 ?_ ?_ <;> omega) | (exact Nat.le_trans (by bits_by_make) (by decide)) | assumption)
  k_with "ktd_handed" => (first | with_reducible assumption | decide | omega | k_extra "NZ")
  k_with "binaryOp FloorDiv int int" => (k_here; (with_reducible refine floordiv_int ?zqkbe ?_ (Or.inl (PyProof.noPylong_of_log2 ?zqkbp))); (case zqkbe => ktd_handed); (case zqkbp => exact log_of_bits (by bits_by_make) (by decide)))
  k_with "binaryOp Mod int int" => (k_here; (with_reducible refine mod_int' ?zqkbe ?_); (case zqkbe => ktd_handed))
  k_with "binaryOp Mod int int" => (with_reducible refine' mod_int_v ?zqhb ?zqe ?_; (case zqe => with_reducible assumption); (case zqhb => ktd_handed))
  k_with "binaryOp Mod int int" => (k_extra "MYMOD")
  k_with "binaryOp Mult int int" => (k_here; k_dflt (refine' PyProof.Rows.mul_int ?_ ?zqhm; (case zqhm => exact PyProof.Rows.mulOk_of_bits (by bits_by_make) (by bits_by_make) (by decide))))
  k_with "binaryOp Pow int int" => (with_reducible refine' pow2_int ?zqh ?_; (case zqh => first | with_reducible assumption | omega))
  k_with "exec Raise some none" => (exfalso; first | contradiction | omega)
  k_with "END" => (first   | (refine' ret_int ?zqh ?zqe ?zqF ?zqN ?zqsub; (case zqh => assumption); (case zqF => k_asm); (case zqN => k_asm); (case zqsub => k_slotset); (case zqe => k_put))   | (refine' ret_bool ?zqh ?zqe ?zqF ?zqN ?zqsub; (case zqh => assumption); (case zqF => k_asm); (case zqN => k_asm); (case zqsub => k_slotset); (case zqe => k_put))   | (refine' ret_pair ?zqh ?zqhm ?zqex ?zqey ?zqF ?zqN ?zqsub; (case zqh => assumption); (case zqF => k_asm); (case zqN => k_asm); (case zqsub => k_slotset); (case zqhm => k_slotget); (case zqex => k_put); (case zqey => k_put))   | (refine' ret_turn ?zqh ?zqhb ?zqhc ?zqhd ?zqe0 ?zqe1 ?zqe2 ?zqe3 ?zqF ?zqN ?zqsub; (case zqh => assumption); (case zqF => k_asm); (case zqN => k_asm); (case zqsub => k_slotset); (case zqhb => k_slotget); (case zqhc => k_slotget); (case zqhd => k_slotget); (case zqe0 => k_put); (case zqe1 => k_put); (case zqe2 => k_put); (case zqe3 => k_put)))
  k_with "exec While Compare cons nil" => (k_extra "MYWHILE")
  k_with "KswEnd" => (k_extra "MYTURN")
  k_with "x_auto" => (first | with_reducible assumption | omega | k_extra "FACT" | fail "fact")
  k_with "ite" => (first   | (with_reducible refine' ine_t ?zqh ?_; (case zqh => x_auto))   | (with_reducible refine' ine_f ?zqh ?_; (case zqh => x_auto))   | (with_reducible refine' ieq_t ?zqh ?_; (case zqh => x_auto))   | (with_reducible refine' ieq_f ?zqh ?_; (case zqh => x_auto))   | (with_reducible refine' dec_t ?zqh ?_; (case zqh => x_auto))   | (with_reducible refine' dec_f ?zqh ?_; (case zqh => x_auto)))
  k_with "eval BinOp" => (k_here; k_dflt (refine' IV.use ?zqd ?_; (case zqd => tb_rel); k_whole); intro t' tk')
  k_with "eval Tuple" => (k_here; k_dflt (refine' tup2 ?zqda ?zqdb ?zqF ?zqN ?_; (case zqda => tb_rel); (case zqdb => tb_rel); (case zqF => k_asm); (case zqN => k_asm); k_whole); intro D' t' u' h' tk' F' N' l1; (try k_lt l1); (try k_sweep))
  k_with "eval UnaryOp" => (k_here; k_dflt (refine' IV.use ?zqd ?_; (case zqd => tb_rel); k_whole); intro t' tk')
  k_with "eval Subscript" => (k_here; k_dflt (refine' IV.use ?zqd ?_; (case zqd => tb_rel); k_whole); intro t' tk')
  k_with "exec If" => (k_here; k_dflt (first | (refine' if_f ?zqd ?_; (case zqd => tb_rel); k_whole) | (refine' if_t ?zqd ?_; (case zqd => tb_rel); k_whole)); intro tk')
  k_with "OFFA" => (first | (refine' OffA.lt ?_; assumption) | (refine' OffA.cons ?zqc ?zqd; (case zqc => first | exact Or.inr (by k_cls) | exact Or.inl (by k_ne)); (case zqd => walk_at "OFFA")))
  k_with "WO" => (first | (refine' WO.here ?_; walk_at "OFFA") | (refine' WO.cons ?zqc ?zqd; (case zqc => first | exact Or.inr (by k_cls) | exact Or.inl (by k_ne)); (case zqd => walk_at "WO")))
  k_with "UnrEnd" => (refine' unr_end ?zqF ?zqN ?zqW ?_; (case zqF => k_asm); (case zqN => k_asm); (case zqW => walk_at "WO"))
  k_with "ENTER" => (refine' code_def ?zqk1 ?zqk2 ?zqk3 ?zqk4 ?zqk5 ?zqkA ?zqkF ?zqkK ?zqk6 ?zqk7 ?zqk8 ?zqk9 ?zqkB ?_ ?zqc2 ?zqc3 ?zqc4 ?zqc5; (case zqkA => exact rfl); (case zqkF => exact rfl); (case zqkK => assumption); (case zqk1 => k_asm); (case zqk2 => k_asm); (case zqk3 => k_asm); (case zqk4 => k_asm); (case zqk5 => k_asm); (case zqk6 => k_is); (case zqk7 => k_is); (case zqk8 => ktr_room); (case zqk9 => first | exact BindsTo.of_eq rfl | exact binds_K (by k_in) rfl (by k_is) rfl rfl rfl); (case zqc5 => decide); (case zqkB => exact locs rfl); (case zqc2 => exact rfl); (case zqc3 => exact rfl); (case zqc4 => exact rfl); k_whole; intro g' L' h' FG' F' N' B' X' T'; (try dsimp only); (try k_fold))
  k_with "subscriptTail Name Constant ref int" => (k_here; k_dflt (first   | ((with_reducible show wpAny _ _ (subscriptTail _ _ (Value.ref _) (Value.int 0 _)) _ _ _); refine' src_item0 ?zqn ?zqm ?zqs ?_; (case zqn => k_asm); (case zqm => k_slotget); (case zqs => with_reducible assumption); k_whole)   | ((with_reducible show wpAny _ _ (subscriptTail _ _ (Value.ref _) (Value.int 1 _)) _ _ _); refine' src_item1 ?zqn ?zqm ?zqs ?_; (case zqn => k_asm); (case zqm => k_slotget); (case zqs => with_reducible assumption); k_whole)))
  k_with "setItem ref int" => (k_here; k_dflt (first   | ((with_reducible show wpAny _ _ (setItem (Value.ref _) (Value.int 0 _) _) _ _ _); refine' src_set0 ?zqF ?zqN ?zqs ?zqe ?_; (case zqF => k_asm); (case zqN => k_asm); (case zqs => with_reducible assumption); (case zqe => with_reducible assumption); k_whole)   | ((with_reducible show wpAny _ _ (setItem (Value.ref _) (Value.int 1 _) _) _ _ _); refine' src_set1 ?zqF ?zqN ?zqs ?zqe ?_; (case zqF => k_asm); (case zqN => k_asm); (case zqs => with_reducible assumption); (case zqe => with_reducible assumption); k_whole)); intro h' o' F' N' S'; (try k_sweep))
  k_with "k_data" => (first | (refine' WS.tail ?zqh; (case zqh => with_reducible assumption)) | (refine' WS.keep ?zqh ?zqr; (case zqh => first | exact Or.inr rfl | exact Or.inl (by k_ne)); (case zqr => k_data)) | (refine' WS.skip ?zqr; (case zqr => k_data)))
  k_with "call ref" => (k_here; k_dflt (refine' use_bool (j_turn ?zqp0 ?zqp1 ?zqp2) ?zqk1 ?zqk2 ?zqk3 ?zqk4 ?zqk5 ?zqkK ?zqkd ?zqku ?_; (case zqk1 => k_asm); (case zqk2 => k_asm); (case zqk3 => k_asm); (case zqk4 => k_asm); (case zqk5 => k_asm); (case zqkK => first | exact rfl | assumption); (case zqp0 => k_get); (case zqp1 => k_get); (case zqp2 => k_get); (case zqkd => ktr_room); (case zqku => ktr_units); k_whole; intro h' tk' F' N'; (try k_sweep); (try dsimp only); (try k_fold)))
  k_with "call ref" => (k_here; k_dflt (refine' use_bool (j_twice ?zqp0 ?zqp1 ?zqp2) ?zqk1 ?zqk2 ?zqk3 ?zqk4 ?zqk5 ?zqkK ?zqkd ?zqku ?_; (case zqk1 => k_asm); (case zqk2 => k_asm); (case zqk3 => k_asm); (case zqk4 => k_asm); (case zqk5 => k_asm); (case zqkK => first | exact rfl | assumption); (case zqp0 => k_get); (case zqp1 => k_get); (case zqp2 => k_get); (case zqkd => ktr_room); (case zqku => ktr_units); k_whole; intro h' tk' F' N'; (try k_sweep); (try dsimp only); (try k_fold)))
  k_with "call ref" => (k_here; k_dflt (refine' use_bool (j_known ?zqp0) ?zqk1 ?zqk2 ?zqk3 ?zqk4 ?zqk5 ?zqkK ?zqkd ?zqku ?_; (case zqk1 => k_asm); (case zqk2 => k_asm); (case zqk3 => k_asm); (case zqk4 => k_asm); (case zqk5 => k_asm); (case zqkK => first | exact rfl | assumption); (case zqp0 => k_get); (case zqkd => ktr_room); (case zqku => ktr_units); k_whole; intro h' tk' F' N'; (try k_sweep); (try dsimp only); (try k_fold)))
  k_with "call ref" => (k_here; k_dflt (refine' use_takeD (cut_degrees ?zqp0) ?zqk1 ?zqk2 ?zqk3 ?zqk4 ?zqk5 ?zqkK ?zqkd ?zqku ?zqS ?zqhl ?zqW ?_; (case zqk1 => k_asm); (case zqk2 => k_asm); (case zqk3 => k_asm); (case zqk4 => k_asm); (case zqk5 => k_asm); (case zqkK => first | exact rfl | assumption); (case zqhl => k_slotget); (case zqS => with_reducible assumption); (case zqW => k_data); (case zqp0 => k_get); (case zqkd => ktr_room); (case zqku => ktr_units); k_whole; intro x' y' c' t' u' o' a' b' ta' tb' h' tk' P' S' O' e' F' N'; (try k_sweep); (try dsimp only at P'); (have P'2 := draw_ok P'; clear P'); (try dsimp only); (try k_fold)))
  k_with "call ref" => (k_here; k_dflt (refine' use_takeV (cut_one ?zqp0 ?zqp1 ?zqp2 ?zqp3) ?zqk1 ?zqk2 ?zqk3 ?zqk4 ?zqk5 ?zqkK ?zqkd ?zqku ?zqS ?zqhl ?zqW ?_; (case zqk1 => k_asm); (case zqk2 => k_asm); (case zqk3 => k_asm); (case zqk4 => k_asm); (case zqk5 => k_asm); (case zqkK => first | exact rfl | assumption); (case zqhl => k_slotget); (case zqS => with_reducible assumption); (case zqW => k_data); (case zqp0 => k_get); (case zqp1 => k_get); (case zqp2 => k_get); (case zqp3 => k_get); (case zqkd => ktr_room); (case zqku => ktr_units); k_whole; intro r' o' a' b' ta' tb' h' tk' P' S' O' e' F' N'; (try k_sweep); (try dsimp only at P'); (have P'2 := menuB P'; clear P'; obtain ⟨e', te', he', P'⟩ := P'2; subst he'); (try dsimp only); (try k_fold)))
  k_with "pyIter ref" => (k_here; k_dflt k_extra "MYLOOP")
  k_with "TurnPost" => (refine' turn_end ?zqF ?zqN ?zqsub ?zqj; (case zqF => k_asm); (case zqN => k_asm); (case zqsub => k_slotset); (case zqj => (intro z h1 h2; simp only [List.contains_cons, List.contains_nil, Bool.or_eq_false_iff, beq_eq_false_iff_ne, Bool.or_false] at h2; simp [h1, h2])))
  k_with "k_data" => (first | exact WS.nil | exact ws_lt (by with_reducible assumption) | exact ws_lt (ktn_ltOf (by with_reducible assumption)) | (refine' WS.keep ?zqh ?zqr; (case zqh => first | exact Or.inr rfl | exact Or.inl (by k_ne)); (case zqr => k_data)) | (refine' WS.skip ?zqr; (case zqr => k_data)))
  k_with "call builtin:len" => (k_here; k_dflt (refine' len_base ?zqk1 ?zqk2 ?zqk3 ?zqk4 ?_; (case zqk1 => with_reducible assumption); (case zqk2 => k_asm); (case zqk3 => k_asm); (case zqk4 => with_reducible assumption); k_whole))
  k_with "call builtin:max" => (k_here; k_dflt (refine' max_v ?zqhh ?zqF ?zqN ?zqe ?_; (case zqhh => exact rfl); (case zqF => k_asm); (case zqN => k_asm); (case zqe => with_reducible assumption); k_whole); intro h' t' tk' F' N'; (try k_sweep))
  k_with "call builtin:min" => (k_here; k_dflt (refine' min_v ?zqhh ?zqF ?zqN ?zqe ?_; (case zqhh => exact rfl); (case zqF => k_asm); (case zqN => k_asm); (case zqe => with_reducible assumption); k_whole); intro h' t' tk' F' N'; (try k_sweep))
  k_with "call ref" => (k_here; k_dflt (refine' use_src (j_pool ?zqp0 ?zqp1 ?zqp2 ?zqp3 ?zqp4) ?zqhl ?zqk1 ?zqk2 ?zqk3 ?zqk4 ?zqk5 ?zqkK ?zqkd ?zqku ?_; (case zqhl => with_reducible assumption); (case zqk1 => k_asm); (case zqk2 => k_asm); (case zqk3 => k_asm); (case zqk4 => k_asm); (case zqk5 => k_asm); (case zqkK => first | exact rfl | assumption); (case zqp0 => first | with_reducible assumption | decide); (case zqp1 => first | with_reducible assumption | decide); (case zqp2 => with_reducible assumption); (case zqp3 => with_reducible assumption); (case zqp4 => with_reducible assumption); (case zqkd => ktr_room); (case zqku => ktr_units); k_whole; intro l' o' a' b' ta' tb' h' tk' F' N' l1 S' O'; (try k_lt l1); (try k_sweep); (try dsimp only); (try k_fold)))
  k_with "call ref" => (k_here; k_dflt (refine' use_boolT (j_tan ?zqp0 ?zqp1) ?zqk1 ?zqk2 ?zqk3 ?zqk4 ?zqk5 ?zqkK ?zqkd ?zqku ?_; (case zqk1 => k_asm); (case zqk2 => k_asm); (case zqk3 => k_asm); (case zqk4 => k_asm); (case zqk5 => k_asm); (case zqkK => first | exact rfl | assumption); (case zqp0 => k_slotget); (case zqp1 => with_reducible assumption); (case zqkd => ktr_room); (case zqku => ktr_units); k_whole; intro h' tk' F' N'; (try k_sweep); (try dsimp only); (try k_fold)))
  k_with "call ref" => (k_here; k_dflt (refine' use_vec (j_vector ?zqp0) ?zqk1 ?zqk2 ?zqk3 ?zqk4 ?zqk5 ?zqkK ?zqkd ?zqku ?zqS ?zqhl ?zqW ?_; (case zqk1 => k_asm); (case zqk2 => k_asm); (case zqk3 => k_asm); (case zqk4 => k_asm); (case zqk5 => k_asm); (case zqkK => first | exact rfl | assumption); (case zqhl => k_slotget); (case zqS => with_reducible assumption); (case zqW => k_data); (case zqp0 => with_reducible assumption); (case zqkd => ktr_room); (case zqku => ktr_units); k_whole; intro h' tk' F' N'; (try k_sweep); (try dsimp only); (try k_fold)))
  apply hd.2
  delta hd
  dsimp only
  k_go0
  rename IntsAre _ _ => hI
  rename ¬ _ < _ => hn
  obtain ⟨hus, v, m, e1, e2, hv⟩ := len_cases hI hn
  k_with "P" => first | exact Nat.zero_lt_succ _ | (simp only [List.length_cons, List.length_nil]; decide)
  k_with "MYLOOP" => (
    rename Fr _ _ _ _ => lF'
    rename IsRange _ _ _ _ _ _ _ _ => rgX
    refine law_inv [PySem.Str.ofString "source", PySem.Str.ofString "degrees", PySem.Str.ofString "bottom"] rfl rgX hv lF' ?_ ?_
    clear lF'
    intro k t u h' tk' own hk0 hk1 F' N'
    try k_sweep
    try k_fold
    rotate_left
    clear lF'
    try clear rgX
    try clear e2
    try clear e1
    try clear hv
    try clear hus
    intro m' h' tk' F'
    try dsimp only
    try dsimp only
    try k_sweep
    try k_fold
    rotate_left)
  try k_fold
  walk_at "STEPS"
end
end Mine
end
set_option maxHeartbeats 8000000 in
theorem PySem.Challenge.cw_nu0010_01_holds : PySem.Challenge.rw_nu0010_01.Holds := by
  exact Mine.law_holds
