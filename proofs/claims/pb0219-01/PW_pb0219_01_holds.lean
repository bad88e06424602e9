import PyProof.Rows.All
import Wide.All
import OpenK.AllK
import Wide.FinOn
import PySem.Challenge.RW_pb0219_01
open PySem PySem.W PyProof.Rows
set_option Elab.async false
namespace Mine
section
set_option maxRecDepth 100000
set_option maxHeartbeats 8000000
open_top hd for PySem.Challenge.rw_pb0219_01
end
end Mine

namespace Mine
def decN : Nat → Int → Int × Int
  | 0, u => (u, 0)
  | n + 1, u => if u % 10 = 0 then decN n (u / 10) else (u, ((n + 1 : Nat) : Int))

abbrev TupI (D : Addr) (x y : Int) (t u : Tok) (c : Nat) : Addr × Obj := (D, ({ cls := .type "tuple", data := .seq #[.int x t, .int y u] c } : Obj))

abbrev Ret2 (h₀ : Heap) (L : Addr) (m : Str → Option Value) (news : List (Addr × Obj)) (s : Shared) (Q : Value → Shared → Prop) (x y : Int) : Prop :=
  ∀ (D : Addr) (t u : Tok) (c : Nat) (h' : Heap) (tk' : Nat), Fr h₀ L h' m → News h₀ L h' (TupI D x y t u c :: news) → AllLt D news → Q (.ref D) { s with heap := h', toks := tk' }

/-- what every contract of a called def opens with -/
abbrev Ctr (prog : Program) (w : World) (K : Frag) (p : Program) (loose : List Str) (mean : ExcName → Option Value) (mg mb : Str → Option Value) (f : Addr) (k : Nat) (vs : List Value) (Rest : Heap → Addr → (Str → Option Value) → Shared → List (Addr × Obj) → (Value → Shared → Prop) → Prop → Prop) : Prop :=
  ∀ (dp un : Nat) (gd : Option (List Code)) (cn : Str) (cs : Scope) (a : Addr) (ccd : Value) (cl : List (Str × Addr)) (outer : List Env) (A₀ : Around) (base h₀ : Heap) (L : Addr) (m : Str → Option Value) (news : List (Addr × Obj)) (s : Shared) (Q E : Value → Shared → Prop),
    Below A₀ base outer h₀ → Fr h₀ L s.heap m → K.In h₀ → News h₀ L s.heap news → Top p loose mean mg mb h₀ → cs.kind = .function → dp + k < recursionLimit → un + 8 * k < cLine →
    Rest h₀ L m s news Q (wpAny (model prog w) (ktrTop dp un gd cn cs L a ccd cl outer) (call (.ref f) vs) Q E s)

def CDec (prog : Program) (w : World) (K : Frag) (p : Program) (loose : List Str) (mean : ExcName → Option Value) (mg mb : Str → Option Value) (f : Addr) : Prop :=
  ∀ (x y : Int) (t u : Tok), 0 ≤ y → y < 100 → Ctr prog w K p loose mean mg mb f 1 [.int x t, .int y u] fun h₀ L m s news Q P => Ret2 h₀ L m news s Q (decN y.toNat x).1 (decN y.toNat x).2 → P

theorem decN_stop0 {y : Int} (x : Int) (h0 : 0 ≤ y) (h : ¬ 0 < y) : decN y.toNat x = (x, y) := by
  have : y = 0 := by omega
  subst this; rfl
theorem decN_stop1 {x y : Int} (h0 : 0 ≤ y) (h : ¬ x % 10 = 0) : decN y.toNat x = (x, y) := by
  obtain ⟨n, rfl⟩ := Int.eq_ofNat_of_zero_le h0
  cases n with
  | zero => rfl
  | succ n => show decN (n + 1) x = _; unfold decN; rw [if_neg h]
theorem decN_step {x y : Int} (h0 : 0 < y) (h : x % 10 = 0) : decN y.toNat x = decN (y - 1).toNat (x / 10) := by
  obtain ⟨n, rfl⟩ := Int.eq_ofNat_of_zero_le (Int.le_of_lt h0)
  cases n with
  | zero => omega
  | succ n => show decN (n + 1) x = _; rw [decN, if_pos h]; congr 1; omega

theorem fmod10 (x : Int) : x.fmod 10 = x % 10 := Int.fmod_eq_emod_of_nonneg x (by decide)
theorem fdiv10 (x : Int) : x.fdiv 10 = x / 10 := Int.fdiv_eq_ediv_of_nonneg x (by decide)
theorem dec_state {r : Int × Int} {u s : Int} (h2 : s < 100) (h3 : r = decN s.toNat u) (h4 : 0 < s) (h5 : u.fmod 10 = 0) : 0 ≤ s - 1 ∧ s - 1 < 100 ∧ r = decN (s - 1).toNat (u.fdiv 10) := by
  rw [fmod10] at h5
  exact ⟨by omega, by omega, by rw [h3, decN_step h4 h5, fdiv10]⟩
theorem ret2_end {h₀ : Heap} {L : Addr} {m : Str → Option Value} {news : List (Addr × Obj)} {s : Shared} {Q : Value → Shared → Prop} {p : Int × Int} {x y : Int} {D : Addr} {t u : Tok} {c : Nat} {h' : Heap} {tk' : Nat}
    (hret : Ret2 h₀ L m news s Q p.1 p.2) (e : p = (x, y)) (F : Fr h₀ L h' m) (N : News h₀ L h' (TupI D x y t u c :: news)) (l : ∀ p ∈ news, p.1 < D) : Q (.ref D) { s with heap := h', toks := tk' } := by
  subst e
  exact hret D t u c h' tk' F N (allLt_of l)
theorem dec_end1 {r : Int × Int} {u s : Int} (h3 : r = decN s.toNat u) (h0 : 0 < s) (h : u.fmod 10 ≠ 0) : r = (u, s) := by
  rw [fmod10] at h; rw [h3]; exact decN_stop1 (Int.le_of_lt h0) h
theorem dec_end0 {r : Int × Int} {u s : Int} (h3 : r = decN s.toNat u) (h0 : 0 ≤ s) (h : ¬ 0 < s) : r = (u, s) := by
  rw [h3]; exact decN_stop0 u h0 h

/-! units_beside -/
abbrev Tup3 (D : Addr) (x y z : Int) (t u v : Tok) (c : Nat) : Addr × Obj := (D, ({ cls := .type "tuple", data := .seq #[.int x t, .int y u, .int z v] c } : Obj))
abbrev Ret3 (h₀ : Heap) (L : Addr) (m : Str → Option Value) (news : List (Addr × Obj)) (s : Shared) (Q : Value → Shared → Prop) (x y z : Int) : Prop :=
  ∀ (D : Addr) (t u v : Tok) (c : Nat) (h' : Heap) (tk' : Nat), Fr h₀ L h' m → News h₀ L h' (Tup3 D x y z t u v c :: news) → AllLt D news → Q (.ref D) { s with heap := h', toks := tk' }
theorem ret3_end {h₀ : Heap} {L : Addr} {m : Str → Option Value} {news news' : List (Addr × Obj)} {s : Shared} {Q : Value → Shared → Prop} {x y z x' y' z' : Int} {D : Addr} {t u v : Tok} {c : Nat} {h' : Heap} {tk' : Nat}
    (hret : Ret3 h₀ L m news s Q x y z) (ex : x = x') (ey : y = y') (ez : z = z') (F : Fr h₀ L h' m) (N : News h₀ L h' (Tup3 D x' y' z' t u v c :: news')) (hs : ∀ p ∈ news, p ∈ news') (l : AllLt D news) : Q (.ref D) { s with heap := h', toks := tk' } := by
  subst ex; subst ey; subst ez
  refine hret D t u v c h' tk' F (fun p hp => ?_) l
  rcases List.mem_cons.mp hp with rfl | hp
  · exact N _ (.head _)
  · exact N p (.tail _ (hs p hp))
/-- units of a scale, told with k places -/
def mx (a b : Int) : Int := if b > a then b else a
def Val (k : Nat) (x y A : Int) : Prop := 0 ≤ y ∧ y ≤ k ∧ k ≤ 60 ∧ x * 10 ^ (k - y.toNat) = A
def CBes (prog : Program) (w : World) (K : Frag) (p : Program) (loose : List Str) (mean : ExcName → Option Value) (mg mb : Str → Option Value) (f : Addr) : Prop :=
  ∀ (D1 D2 : Addr) (x1 y1 x2 y2 : Int) (t1 u1 t2 u2 : Tok) (c1 c2 : Nat), 0 ≤ y1 → y1 < 100 → 0 ≤ y2 → y2 < 100 → Builtin.Int.intBits x1 ≤ 1048576 → Builtin.Int.intBits x2 ≤ 1048576 →
    Ctr prog w K p loose mean mg mb f 1 [.ref D1, .ref D2] fun h₀ L m s news Q P => TupI D1 x1 y1 t1 u1 c1 ∈ news → TupI D2 x2 y2 t2 u2 c2 ∈ news → Ret3 h₀ L m news s Q (x1 * 10 ^ (mx y1 y2 - y1).toNat) (x2 * 10 ^ (mx y1 y2 - y2).toNat) (mx y1 y2) → P

theorem news2 {h₀ h : Heap} {L : Addr} {p q : Addr × Obj} {news : List (Addr × Obj)} (N : News h₀ L h news) (h1 : p ∈ news) (h2 : q ∈ news) : News h₀ L h (p :: q :: news) := fun r hr => by
  rcases List.mem_cons.mp hr with rfl | hr
  · exact N _ h1
  · rcases List.mem_cons.mp hr with rfl | hr
    · exact N _ h2
    · exact N _ hr
theorem news1 {h₀ h : Heap} {L : Addr} {p : Addr × Obj} {news : List (Addr × Obj)} (N : News h₀ L h news) (h1 : p ∈ news) : News h₀ L h (p :: news) := fun r hr => by
  rcases List.mem_cons.mp hr with rfl | hr
  · exact N _ h1
  · exact N _ hr
theorem sub2 {p q : Addr × Obj} {news : List (Addr × Obj)} : ∀ r ∈ news, r ∈ p :: q :: news := fun _ h => .tail _ (.tail _ h)
theorem sub1 {p : Addr × Obj} {news : List (Addr × Obj)} : ∀ r ∈ news, r ∈ p :: news := fun _ h => .tail _ h

theorem pow10_bits (n : Int) (h : n ≤ 1000) : Builtin.Int.intBits ((10 : Int) ^ n.toNat) ≤ 1048576 :=
  Nat.le_trans (intBits_pow_le (m := 4) (intBits_le_iff.mpr (by decide)) n.toNat) (by omega)
theorem mulok {a b : Int} (ha : Builtin.Int.intBits a ≤ 1048576) (hb : Builtin.Int.intBits b ≤ 1048576) : IntMulOk a b := .of_bits ha hb

theorem pow10 {prog : Program} {w : World} {A : Around} {E : Value → Shared → Prop} {s : Shared} {n : Int} {t u : Tok} {Q : Value → Shared → Prop} (hn : 0 ≤ n) (hs : n ≤ 1000) (h : Q (.int (10 ^ n.toNat) s.toks) { s with toks := s.toks + 1 }) :
    wpAny (model prog w) A (binaryOp .Pow (.int 10 t) (.int n u)) Q E s :=
  pow_int hn (by rw [show Builtin.Int.intBits 10 = 4 from by decide]; omega) h
end Mine

namespace Mine
theorem decN_shift (n : Nat) (u : Int) : ∀ j : Nat, decN (n + j) (u * 10 ^ j) = decN n u
  | 0 => by simp
  | j + 1 => by
    rw [← decN_shift n u j, ← Nat.add_assoc, decN]
    have e : u * 10 ^ (j + 1) = u * 10 ^ j * 10 := by rw [Int.pow_succ, Int.mul_assoc]
    rw [e, if_pos (Int.mul_emod_left ..), Int.mul_ediv_cancel _ (by decide)]
theorem decN_val : ∀ (k : Nat) (A : Int), 0 ≤ (decN k A).2 ∧ (decN k A).2 ≤ k ∧ (decN k A).1 * 10 ^ (k - (decN k A).2.toNat) = A
  | 0, A => by simp [decN]
  | k + 1, A => by
    rw [decN]
    by_cases h : A % 10 = 0
    · rw [if_pos h]
      obtain ⟨a, b, c⟩ := decN_val k (A / 10)
      refine ⟨a, by omega, ?_⟩
      rw [show k + 1 - (decN k (A / 10)).2.toNat = (k - (decN k (A / 10)).2.toNat) + 1 by omega, Int.pow_succ, ← Int.mul_assoc, c]
      exact Int.ediv_mul_cancel (Int.dvd_of_emod_eq_zero h)
    · rw [if_neg h]
      refine ⟨by simp only []; omega, by simp only []; omega, ?_⟩
      simp only [Int.toNat_natCast, Nat.sub_self, Int.pow_zero, Int.mul_one]
theorem decN_plain : ∀ (k : Nat) (A : Int), (decN k A).2 = 0 ∨ ((decN k A).2 > 0 ∧ (decN k A).1 % 10 ≠ 0)
  | 0, A => by simp [decN]
  | k + 1, A => by
    rw [decN]
    by_cases h : A % 10 = 0
    · rw [if_pos h]; exact decN_plain k _
    · rw [if_neg h]; exact .inr ⟨by simp only []; omega, h⟩
theorem decN_neg : ∀ (k : Nat) (A : Int), decN k (-A) = (-(decN k A).1, (decN k A).2)
  | 0, A => by simp [decN]
  | k + 1, A => by
    rw [decN, decN]
    by_cases h : A % 10 = 0
    · rw [if_pos h, if_pos (by omega), show -A / 10 = -(A / 10) by omega]; exact decN_neg k _
    · rw [if_neg h, if_neg (by omega)]
theorem decN_abs : ∀ (k : Nat) (A : Int), (decN k A).1.natAbs ≤ A.natAbs
  | 0, A => by simp [decN]
  | k + 1, A => by
    rw [decN]
    by_cases h : A % 10 = 0
    · rw [if_pos h]; exact Nat.le_trans (decN_abs k _) (by omega)
    · rw [if_neg h]; exact Nat.le_refl _
theorem val_dec (k : Nat) (hk : k ≤ 60) (A : Int) : Val k (decN k A).1 (decN k A).2 A := ⟨(decN_val k A).1, (decN_val k A).2.1, hk, (decN_val k A).2.2⟩
theorem val_at {k : Nat} {x y A : Int} (V : Val k x y A) {M : Int} (h : y ≤ M) (hM : M ≤ k) : x * 10 ^ (M - y).toNat * 10 ^ (k - M.toNat) = A := by
  obtain ⟨a, b, _, e⟩ := V
  rw [Int.mul_assoc, ← Int.pow_add, ← e]
  congr 2
  omega
theorem plus_eq {k : Nat} {x1 y1 x2 y2 A B : Int} (V : Val k x1 y1 A) (W : Val k x2 y2 B) :
    decN (mx y1 y2).toNat (x1 * 10 ^ (mx y1 y2 - y1).toNat + x2 * 10 ^ (mx y1 y2 - y2).toNat) = decN k (A + B) := by
  have h1 : y1 ≤ mx y1 y2 := by unfold mx; split <;> omega
  have h2 : y2 ≤ mx y1 y2 := by unfold mx; split <;> omega
  have h3 : mx y1 y2 ≤ k := by unfold mx; have := V.2.1; have := W.2.1; split <;> omega
  have h0 := V.1
  rw [← val_at V h1 h3, ← val_at W h2 h3, ← Int.add_mul]
  conv => rhs; rw [show k = (mx y1 y2).toNat + (k - (mx y1 y2).toNat) by omega]
  rw [show (mx y1 y2).toNat + (k - (mx y1 y2).toNat) - (mx y1 y2).toNat = k - (mx y1 y2).toNat by omega]
  exact (decN_shift _ _ _).symm
theorem minus_eq {k : Nat} {x1 y1 x2 y2 A B : Int} (V : Val k x1 y1 A) (W : Val k x2 y2 B) :
    decN (mx y1 y2).toNat (x1 * 10 ^ (mx y1 y2 - y1).toNat - x2 * 10 ^ (mx y1 y2 - y2).toNat) = decN k (A - B) := by
  have W' : Val k (-x2) y2 (-B) := ⟨W.1, W.2.1, W.2.2.1, by rw [← W.2.2.2, Int.neg_mul]⟩
  have := plus_eq V W'
  rw [Int.neg_mul, ← Int.sub_eq_add_neg, ← Int.sub_eq_add_neg] at this
  exact this
theorem times_eq {j k : Nat} {x1 y1 x2 y2 A B : Int} (V : Val j x1 y1 A) (W : Val k x2 y2 B) : decN (y1 + y2).toNat (x1 * x2) = decN (j + k) (A * B) := by
  obtain ⟨a, b, _, e⟩ := V
  obtain ⟨a', b', _, e'⟩ := W
  rw [← e, ← e']
  have q : x1 * 10 ^ (j - y1.toNat) * (x2 * 10 ^ (k - y2.toNat)) = x1 * x2 * 10 ^ (j + k - (y1 + y2).toNat) := by
    rw [show j + k - (y1 + y2).toNat = (j - y1.toNat) + (k - y2.toNat) by omega, Int.pow_add]
    simp only [Int.mul_assoc, Int.mul_left_comm]
  rw [q]
  conv => rhs; rw [show j + k = (y1 + y2).toNat + (j + k - (y1 + y2).toNat) by omega]
  rw [show (y1 + y2).toNat + (j + k - (y1 + y2).toNat) - (y1 + y2).toNat = j + k - (y1 + y2).toNat by omega]
  exact (decN_shift _ _ _).symm
theorem val_abs {k : Nat} {x y A : Int} (V : Val k x y A) : x.natAbs ≤ A.natAbs := by
  rw [← V.2.2.2, Int.natAbs_mul, Int.natAbs_pow]
  exact Nat.le_mul_of_pos_right _ (Nat.pow_pos (by decide))
end Mine

namespace Mine
section
variable {prog : Program} {w : World} {K : Frag} {p : Program} {loose : List Str} {mean : ExcName → Option Value} {mg mb : Str → Option Value} {f : Addr}
  {dp un : Nat} {gd : Option (List Code)} {cn : Str} {cs : Scope} {a : Addr} {ccd : Value} {cl : List (Str × Addr)} {outer : List Env} {A₀ : Around} {base h₀ : Heap} {L : Addr} {m : Str → Option Value} {news : List (Addr × Obj)} {s : Shared} {Q E : Value → Shared → Prop}
theorem dec_use {x y : Int} {t u : Tok} (C : CDec prog w K p loose mean mg mb f) (B : Below A₀ base outer h₀) (F : Fr h₀ L s.heap m) (X : K.In h₀) (N : News h₀ L s.heap news) (T : Top p loose mean mg mb h₀) (hk : cs.kind = .function)
    (h0 : 0 ≤ y) (h1 : y < 100) (hd : dp + 1 < recursionLimit) (hu : un + 8 * 1 < cLine) (ret : Ret2 h₀ L m news s Q (decN y.toNat x).1 (decN y.toNat x).2) :
    wpAny (model prog w) (ktrTop dp un gd cn cs L a ccd cl outer) (call (.ref f) [.int x t, .int y u]) Q E s := C x y t u h0 h1 _ _ _ _ _ _ _ _ _ _ _ _ _ _ _ _ _ _ B F X N T hk hd hu ret
theorem bes_use {D1 D2 : Addr} {x1 y1 x2 y2 : Int} {t1 u1 t2 u2 : Tok} {c1 c2 : Nat} (C : CBes prog w K p loose mean mg mb f) (B : Below A₀ base outer h₀) (F : Fr h₀ L s.heap m) (X : K.In h₀) (N : News h₀ L s.heap news) (T : Top p loose mean mg mb h₀) (hk : cs.kind = .function)
    (m1 : (D1, ({ cls := .type "tuple", data := .seq #[.int x1 t1, .int y1 u1] c1 } : Obj)) ∈ news) (m2 : (D2, ({ cls := .type "tuple", data := .seq #[.int x2 t2, .int y2 u2] c2 } : Obj)) ∈ news) (a0 : 0 ≤ y1) (a1 : y1 < 100) (b0 : 0 ≤ y2) (b1 : y2 < 100) (z1 : Builtin.Int.intBits x1 ≤ 1048576) (z2 : Builtin.Int.intBits x2 ≤ 1048576)
    (hd : dp + 1 < recursionLimit) (hu : un + 8 * 1 < cLine) (ret : Ret3 h₀ L m news s Q (x1 * 10 ^ (mx y1 y2 - y1).toNat) (x2 * 10 ^ (mx y1 y2 - y2).toNat) (mx y1 y2)) :
    wpAny (model prog w) (ktrTop dp un gd cn cs L a ccd cl outer) (call (.ref f) [.ref D1, .ref D2]) Q E s := C D1 D2 x1 y1 x2 y2 t1 u1 t2 u2 c1 c2 a0 a1 b0 b1 z1 z2 _ _ _ _ _ _ _ _ _ _ _ _ _ _ _ _ _ _ B F X N T hk hd hu m1 m2 ret
end

/-- plus, minus -/
def CSum (op : Int → Int → Int) (prog : Program) (w : World) (K : Frag) (p : Program) (loose : List Str) (mean : ExcName → Option Value) (mg mb : Str → Option Value) (f : Addr) : Prop :=
  ∀ (k : Nat) (A B : Int) (D1 D2 : Addr) (x1 y1 x2 y2 : Int) (t1 u1 t2 u2 : Tok) (c1 c2 : Nat), Val k x1 y1 A → Val k x2 y2 B → Builtin.Int.intBits x1 ≤ 1048576 → Builtin.Int.intBits x2 ≤ 1048576 →
    Ctr prog w K p loose mean mg mb f 2 [.ref D1, .ref D2] fun h₀ L m s news Q P => TupI D1 x1 y1 t1 u1 c1 ∈ news → TupI D2 x2 y2 t2 u2 c2 ∈ news → Ret2 h₀ L m news s Q (decN k (op A B)).1 (decN k (op A B)).2 → P
theorem ret2_endS {h₀ : Heap} {L : Addr} {m : Str → Option Value} {news news' : List (Addr × Obj)} {s : Shared} {Q : Value → Shared → Prop} {p q : Int × Int} {D : Addr} {t u : Tok} {c : Nat} {h' : Heap} {tk' : Nat}
    (hret : Ret2 h₀ L m news s Q p.1 p.2) (e : q = p) (F : Fr h₀ L h' m) (N : News h₀ L h' (TupI D q.1 q.2 t u c :: news')) (hs : ∀ p ∈ news, p ∈ news') (l : AllLt D news) : Q (.ref D) { s with heap := h', toks := tk' } := by
  subst e
  refine hret D t u c h' tk' F (fun p hp => ?_) l
  rcases List.mem_cons.mp hp with rfl | hp
  · exact N _ (.head _)
  · exact N p (.tail _ (hs p hp))
theorem sub3 {p q r : Addr × Obj} {news : List (Addr × Obj)} : ∀ x ∈ news, x ∈ p :: q :: r :: news := fun _ h => .tail _ (.tail _ (.tail _ h))
theorem mx_bd {k : Nat} {x1 y1 x2 y2 A B : Int} (V : Val k x1 y1 A) (W : Val k x2 y2 B) : 0 ≤ mx y1 y2 ∧ mx y1 y2 < 100 := by
  have a := V.1; have b := V.2.1; have c := V.2.2.1; have a' := W.1; have b' := W.2.1
  unfold mx; split <;> omega
theorem allLt1 {d : Nat} {p : Addr × Obj} {news : List (Addr × Obj)} (h : AllLt d (p :: news)) : AllLt d news := h.2
theorem allLt2 {d : Nat} {p q : Addr × Obj} {news : List (Addr × Obj)} (h : AllLt d (p :: q :: news)) : AllLt d news := h.2.2
theorem allLt3 {d : Nat} {p q r : Addr × Obj} {news : List (Addr × Obj)} (h : AllLt d (p :: q :: r :: news)) : AllLt d news := h.2.2.2

/-- times -/
def CTim (prog : Program) (w : World) (K : Frag) (p : Program) (loose : List Str) (mean : ExcName → Option Value) (mg mb : Str → Option Value) (f : Addr) : Prop :=
  ∀ (j k : Nat) (A B : Int) (D1 D2 : Addr) (x1 y1 x2 y2 : Int) (t1 u1 t2 u2 : Tok) (c1 c2 : Nat), Val j x1 y1 A → Val k x2 y2 B → j + k ≤ 30 → Builtin.Int.intBits x1 ≤ 1048576 → Builtin.Int.intBits x2 ≤ 1048576 → (A * B).natAbs < 10 ^ 120 →
    Ctr prog w K p loose mean mg mb f 3 [.ref D1, .ref D2] fun h₀ L m s news Q P => TupI D1 x1 y1 t1 u1 c1 ∈ news → TupI D2 x2 y2 t2 u2 c2 ∈ news → Ret2 h₀ L m news s Q (decN (j + k) (A * B)).1 (decN (j + k) (A * B)).2 → P
theorem times_abs {j k : Nat} {x1 y1 x2 y2 A B : Int} (V : Val j x1 y1 A) (W : Val k x2 y2 B) (h : (A * B).natAbs < 10 ^ 120) : (x1 * x2).natAbs < 10 ^ 120 := by
  refine Nat.lt_of_le_of_lt ?_ h
  rw [Int.natAbs_mul, Int.natAbs_mul]
  exact Nat.mul_le_mul (val_abs V) (val_abs W)
theorem fits_lt {z : Int} (h : z.natAbs < 10 ^ 120) : (if z < 0 then -z else z) < 10 ^ Int.toNat 120 := by
  have e : (10 : Int) ^ Int.toNat 120 = ((10 ^ 120 : Nat) : Int) := by rw [Int.natCast_pow]; rfl
  rw [e]
  generalize 10 ^ 120 = n at h
  split <;> omega
end Mine

namespace Mine
/-- _law_worth -/
def CWor (prog : Program) (w : World) (K : Frag) (p : Program) (loose : List Str) (mean : ExcName → Option Value) (mg mb : Str → Option Value) (f : Addr) : Prop :=
  ∀ (at' : Int) (ta : Tok) (l : Addr) (vs : List Value) (ns : List Int), IntsAre vs ns → ns.length < 2 ^ 62 → 0 ≤ at' → at' ≤ 2 →
    ∀ (dp un : Nat) (gd : Option (List Code)) (cn : Str) (cs : Scope) (a : Addr) (ccd : Value) (cl : List (Str × Addr)) (outer : List Env) (A₀ : Around) (base h₀ : Heap) (L : Addr) (m : Str → Option Value) (news : List (Addr × Obj)) (s : Shared) (Q E : Value → Shared → Prop),
    Below A₀ base outer h₀ → Fr h₀ L s.heap m → K.In h₀ → News h₀ L s.heap news → Top p loose mean mg mb h₀ → cs.kind = .function → base.IsList l vs.toArray → dp + 1 < recursionLimit → un + 8 * 1 < cLine →
    (∀ x y : Int, x.natAbs < 10 ^ 40 → 0 ≤ y → y < 15 → Ret2 h₀ L m news s Q x y) →
    wpAny (model prog w) (ktrTop dp un gd cn cs L a ccd cl outer) (call (.ref f) [.ref l, .int at' ta]) Q E s
theorem wor_abs (X : Int) : (X.fmod (10 ^ Int.toNat 40)).natAbs < 10 ^ 40 := by
  have e : (10 : Int) ^ Int.toNat 40 = ((10 ^ 40 : Nat) : Int) := by rw [Int.natCast_pow]; rfl
  have p : 0 < 10 ^ 40 := Nat.pow_pos (by decide)
  rw [e]
  generalize 10 ^ 40 = n at p ⊢
  rw [Int.fmod_eq_emod_of_nonneg X (by omega)]
  have a := Int.emod_nonneg X (b := (n : Int)) (by omega)
  have b := Int.emod_lt_of_pos X (b := (n : Int)) (by omega)
  omega
theorem wor_absn (X : Int) : (-(X.fmod (10 ^ Int.toNat 40))).natAbs < 10 ^ 40 := by rw [Int.natAbs_neg]; exact wor_abs X
theorem wor_end {h₀ : Heap} {L : Addr} {m : Str → Option Value} {news : List (Addr × Obj)} {s : Shared} {Q : Value → Shared → Prop} {x y : Int} {D : Addr} {t u : Tok} {c : Nat} {h' : Heap} {tk' : Nat}
    (hret : ∀ x y : Int, x.natAbs < 10 ^ 40 → 0 ≤ y → y < 15 → Ret2 h₀ L m news s Q x y) (hx : x.natAbs < 10 ^ 40) (h0 : 0 ≤ y) (h1 : y < 15) (F : Fr h₀ L h' m) (N : News h₀ L h' (TupI D x y t u c :: news)) (l : ∀ p ∈ news, p.1 < D) : Q (.ref D) { s with heap := h', toks := tk' } :=
  hret x y hx h0 h1 D t u c h' tk' F N (allLt_of l)
end Mine

namespace Mine
local macro_rules | `(tactic| cell_enter) => `(tactic| (refine' code_def ?k1 ?k2 ?k3 ?k4 ?k5 ?kA ?kF ?kK ?k6 ?k7 ?k8 ?k9 ?kB ?_ ?c2 ?c3 ?c4 ?c5; (case kA => exact rfl); (case kF => exact rfl); (case kK => assumption); (case k1 => k_asm); (case k2 => k_asm); (case k3 => k_asm); (case k4 => k_asm); (case k5 => k_asm); (case k6 => k_is); (case k7 => k_is); (case k8 => ktr_room); (case k9 => first | exact BindsTo.of_eq rfl | exact binds_K (by k_in) rfl (by k_is) rfl rfl rfl); (case c5 => decide); (case kB => exact locs rfl); (case c2 => exact rfl); (case c3 => exact rfl); (case c4 => exact rfl); k_whole; intro g' L' h' FG' F' N' B' X' T'; (try dsimp only); (try k_lift B'); (try k_fold)))
set_option maxRecDepth 100000 in
set_option maxHeartbeats 8000000 in
theorem dec_ctr (w : World) (mean : ExcName → Option Value) (mg mb : Str → Option Value) : CDec PySem.Challenge.rw_pb0219_01.row.prog w (hd.heap_39 w.params) hd.view_39 (looseW hd.view_39 [Str.ofString "LedgerError", Str.ofString "decimal"]) mean mg mb 70 := by
  k_fill
  intro x y t u h0 h1
  intro dp un gd cn cs a ccd cl outer A₀ base h₀ L m news s Q E B F X N T hk hd hu hret
  k_with "exec While BoolOp cons nil" => k_while_given ["units!", "scale!"] (fun u₀ s₀ _ u s => 0 ≤ s ∧ s < 100 ∧ decN s₀.toNat u₀ = decN s.toNat u) (fun _ _ _ _ s => s.toNat) "units" "scale"
  k_with "state" => exact dec_state (by assumption) (by assumption) (by assumption) (by assumption)
  refine wpAny_call ?_
  k_dflt cell_enter
  k_steps
  · refine ret2_end hret ?_ (by k_asm) (by k_asm) (by assumption)
    exact dec_end1 (by assumption) (by assumption) (by assumption)
  · refine ret2_end hret ?_ (by k_asm) (by k_asm) (by assumption)
    exact dec_end0 (by assumption) (by assumption) (by assumption)
end Mine

namespace Mine
local macro_rules | `(tactic| cell_enter) => `(tactic| (refine' code_def ?k1 ?k2 ?k3 ?k4 ?k5 ?kA ?kF ?kK ?k6 ?k7 ?k8 ?k9 ?kB ?_ ?c2 ?c3 ?c4 ?c5; (case kA => exact rfl); (case kF => exact rfl); (case kK => assumption); (case k1 => k_asm); (case k2 => k_asm); (case k3 => k_asm); (case k4 => k_asm); (case k5 => k_asm); (case k6 => k_is); (case k7 => k_is); (case k8 => ktr_room); (case k9 => first | exact BindsTo.of_eq rfl | exact binds_K (by k_in) rfl (by k_is) rfl rfl rfl); (case c5 => decide); (case kB => exact locs rfl); (case c2 => exact rfl); (case c3 => exact rfl); (case c4 => exact rfl); k_whole; intro g' L' h' FG' F' N' B' X' T'; (try dsimp only); (try k_lift B'); (try k_fold)))
local macro_rules | `(tactic| walk_at "binaryOp Mult int int") => `(tactic| (k_here; (refine mul_int ?_ (mulok (by assumption) (pow10_bits _ (by split <;> omega))))))
local macro_rules | `(tactic| walk_at "binaryOp Pow int int") => `(tactic| (k_here; (refine pow10 (by split <;> omega) (by split <;> omega) ?_)))
set_option maxRecDepth 100000 in
set_option maxHeartbeats 8000000 in
theorem bes_ctr (w : World) (mean : ExcName → Option Value) (mg mb : Str → Option Value) : CBes PySem.Challenge.rw_pb0219_01.row.prog w (hd.heap_39 w.params) hd.view_39 (looseW hd.view_39 [Str.ofString "LedgerError", Str.ofString "decimal"]) mean mg mb 84 := by
  k_fill
  intro D1 D2 x1 y1 x2 y2 t1 u1 t2 u2 c1 c2 a0 a1 b0 b1 bx1 bx2
  intro dp un gd cn cs a ccd cl outer A₀ base h₀ L m news s Q E B F X N T hk hd hu hm1 hm2 hret
  replace N := news2 N hm1 hm2
  dsimp only [TupI] at N
  clear hm1 hm2
  refine wpAny_call ?_
  k_dflt cell_enter
  k_steps
  exact ret3_end hret rfl rfl rfl (by k_asm) (by k_asm) sub2 (And.right (And.right (by assumption)))
end Mine

namespace Mine
local macro_rules | `(tactic| cell_enter) => `(tactic| (refine' code_def ?k1 ?k2 ?k3 ?k4 ?k5 ?kA ?kF ?kK ?k6 ?k7 ?k8 ?k9 ?kB ?_ ?c2 ?c3 ?c4 ?c5; (case kA => exact rfl); (case kF => exact rfl); (case kK => assumption); (case k1 => k_asm); (case k2 => k_asm); (case k3 => k_asm); (case k4 => k_asm); (case k5 => k_asm); (case k6 => k_is); (case k7 => k_is); (case k8 => ktr_room); (case k9 => first | exact BindsTo.of_eq rfl | exact binds_K (by k_in) rfl (by k_is) rfl rfl rfl); (case c5 => decide); (case kB => exact locs rfl); (case c2 => exact rfl); (case c3 => exact rfl); (case c4 => exact rfl); k_whole; intro g' L' h' FG' F' N' B' X' T'; (try dsimp only); (try k_lift B'); (try k_fold)))

local macro_rules | `(tactic| walk_at "call ref") => `(tactic| (k_here; k_dflt (refine' dec_use ?C ?B ?F ?X ?N ?T ?k ?p ?q ?d ?u ?_; (case C => assumption); (case B => k_asm); (case F => k_asm); (case X => k_asm); (case N => k_asm); (case T => k_asm); (case k => first | exact rfl | assumption); (case p => first | assumption | omega); (case q => first | assumption | omega); (case d => ktr_room); (case u => ktr_units); k_whole); intro D' t' u' c' h' tk' F' N' l'; (try k_sweep); (try dsimp only); (try k_fold)))
local macro_rules | `(tactic| walk_at "call ref") => `(tactic| (k_here; k_dflt (refine' bes_use ?C ?B ?F ?X ?N ?T ?k ?m ?n ?p ?q ?r ?x ?y ?z ?d ?u ?_; (case C => assumption); (case B => k_asm); (case F => k_asm); (case X => k_asm); (case N => k_asm); (case T => k_asm); (case k => first | exact rfl | assumption); (case m => k_mem); (case n => k_mem); (case p => first | assumption | omega); (case q => first | assumption | omega); (case r => first | assumption | omega); (case x => first | assumption | omega);  (case y => first | assumption | omega); (case z => first | assumption | omega); (case d => ktr_room); (case u => ktr_units); k_whole); intro D' t' u' v' c' h' tk' F' N' l'; (try k_sweep); (try dsimp only); (try k_fold)))

set_option maxRecDepth 100000 in
set_option maxHeartbeats 8000000 in
theorem plus_ctr (w : World) (mean : ExcName → Option Value) (mg mb : Str → Option Value) 
    (CD : CDec PySem.Challenge.rw_pb0219_01.row.prog w (hd.heap_39 w.params) hd.view_39 (looseW hd.view_39 [Str.ofString "LedgerError", Str.ofString "decimal"]) mean mg mb 70)
    (CB : CBes PySem.Challenge.rw_pb0219_01.row.prog w (hd.heap_39 w.params) hd.view_39 (looseW hd.view_39 [Str.ofString "LedgerError", Str.ofString "decimal"]) mean mg mb 84) :
    CSum (· + ·) PySem.Challenge.rw_pb0219_01.row.prog w (hd.heap_39 w.params) hd.view_39 (looseW hd.view_39 [Str.ofString "LedgerError", Str.ofString "decimal"]) mean mg mb 91 := by
  k_fill
  intro k Av Bv D1 D2 x1 y1 x2 y2 t1 u1 t2 u2 c1 c2 V W bx1 bx2
  intro dp un gd cn cs a ccd cl outer A₀ base h₀ L m news s Q E B F X N T hk hd hu hm1 hm2 hret
  replace N := news2 N hm1 hm2
  dsimp only [TupI] at N
  clear hm1 hm2
  have e1 := V.1
  have e2 := V.2.1
  have e3 := V.2.2.1
  have e4 := W.1
  have e5 := W.2.1
  have e6 := (mx_bd V W).1
  have e7 := (mx_bd V W).2
  refine wpAny_call ?_
  k_dflt cell_enter
  k_steps
  exact ret2_endS (p := decN k (Av + Bv)) hret (plus_eq V W) (by k_asm) (by k_asm) sub3 (allLt3 (by assumption))
set_option maxRecDepth 100000 in
set_option maxHeartbeats 8000000 in
theorem minus_ctr (w : World) (mean : ExcName → Option Value) (mg mb : Str → Option Value) 
    (CD : CDec PySem.Challenge.rw_pb0219_01.row.prog w (hd.heap_39 w.params) hd.view_39 (looseW hd.view_39 [Str.ofString "LedgerError", Str.ofString "decimal"]) mean mg mb 70)
    (CB : CBes PySem.Challenge.rw_pb0219_01.row.prog w (hd.heap_39 w.params) hd.view_39 (looseW hd.view_39 [Str.ofString "LedgerError", Str.ofString "decimal"]) mean mg mb 84) :
    CSum (· - ·) PySem.Challenge.rw_pb0219_01.row.prog w (hd.heap_39 w.params) hd.view_39 (looseW hd.view_39 [Str.ofString "LedgerError", Str.ofString "decimal"]) mean mg mb 98 := by
  k_fill
  intro k Av Bv D1 D2 x1 y1 x2 y2 t1 u1 t2 u2 c1 c2 V W bx1 bx2
  intro dp un gd cn cs a ccd cl outer A₀ base h₀ L m news s Q E B F X N T hk hd hu hm1 hm2 hret
  replace N := news2 N hm1 hm2
  dsimp only [TupI] at N
  clear hm1 hm2
  have e1 := V.1
  have e2 := V.2.1
  have e3 := V.2.2.1
  have e4 := W.1
  have e5 := W.2.1
  have e6 := (mx_bd V W).1
  have e7 := (mx_bd V W).2
  refine wpAny_call ?_
  k_dflt cell_enter
  k_steps
  exact ret2_endS (p := decN k (Av - Bv)) hret (minus_eq V W) (by k_asm) (by k_asm) sub3 (allLt3 (by assumption))
end Mine

namespace Mine
local macro_rules | `(tactic| cell_enter) => `(tactic| (refine' code_def ?k1 ?k2 ?k3 ?k4 ?k5 ?kA ?kF ?kK ?k6 ?k7 ?k8 ?k9 ?kB ?_ ?c2 ?c3 ?c4 ?c5; (case kA => exact rfl); (case kF => exact rfl); (case kK => first | exact rfl | assumption); (case k1 => k_asm); (case k2 => k_asm); (case k3 => k_asm); (case k4 => k_asm); (case k5 => k_asm); (case k6 => k_is); (case k7 => k_is); (case k8 => ktr_room); (case k9 => first | exact BindsTo.of_eq rfl | exact binds_K (by k_in) rfl (by k_is) rfl rfl rfl); (case c5 => decide); (case kB => exact locs rfl); (case c2 => exact rfl); (case c3 => exact rfl); (case c4 => exact rfl); k_whole; intro g' L' h' FG' F' N' B' X' T'; (try dsimp only); (try k_lift B'); (try k_fold)))

local macro_rules | `(tactic| walk_at "call ref") => `(tactic| (k_here; k_dflt (refine' dec_use ?C ?B ?F ?X ?N ?T ?k ?p ?q ?d ?u ?_; (case C => assumption); (case B => k_asm); (case F => k_asm); (case X => k_asm); (case N => k_asm); (case T => k_asm); (case k => first | exact rfl | assumption); (case p => first | assumption | omega); (case q => first | assumption | omega); (case d => ktr_room); (case u => ktr_units); k_whole); intro D' t' u' c' h' tk' F' N' l'; (try k_sweep); (try dsimp only); (try k_fold)))
local macro_rules | `(tactic| walk_at "call ref") => `(tactic| (k_here; k_dflt (refine' bes_use ?C ?B ?F ?X ?N ?T ?k ?m ?n ?p ?q ?r ?x ?y ?z ?d ?u ?_; (case C => assumption); (case B => k_asm); (case F => k_asm); (case X => k_asm); (case N => k_asm); (case T => k_asm); (case k => first | exact rfl | assumption); (case m => k_mem); (case n => k_mem); (case p => first | assumption | omega); (case q => first | assumption | omega); (case r => first | assumption | omega); (case x => first | assumption | omega);  (case y => first | assumption | omega); (case z => first | assumption | omega); (case d => ktr_room); (case u => ktr_units); k_whole); intro D' t' u' v' c' h' tk' F' N' l'; (try k_sweep); (try dsimp only); (try k_fold)))


local macro_rules | `(tactic| walk_at "call ref") => `(tactic| (k_here; (first | (with_reducible show wpAny _ _ (call (Value.ref 77) _ _) _ _ _) | (with_reducible show wpAny _ _ (call (Value.ref 119) _ _) _ _ _)); (refine wpAny_call ?_); k_dflt cell_enter))
local macro_rules | `(tactic| walk_at "binaryOp Mult int int") => `(tactic| (k_here; (refine mul_int ?_ (mulok (by assumption) (by assumption)))))

set_option maxRecDepth 100000 in
set_option maxHeartbeats 8000000 in
theorem times_ctr (w : World) (mean : ExcName → Option Value) (mg mb : Str → Option Value) 
    (CD : CDec PySem.Challenge.rw_pb0219_01.row.prog w (hd.heap_39 w.params) hd.view_39 (looseW hd.view_39 [Str.ofString "LedgerError", Str.ofString "decimal"]) mean mg mb 70) :
    CTim PySem.Challenge.rw_pb0219_01.row.prog w (hd.heap_39 w.params) hd.view_39 (looseW hd.view_39 [Str.ofString "LedgerError", Str.ofString "decimal"]) mean mg mb 105 := by
  k_fill
  intro j k Av Bv D1 D2 x1 y1 x2 y2 t1 u1 t2 u2 c1 c2 V W hjk bx1 bx2 hAB
  intro dp un gd cn cs a ccd cl outer A₀ base h₀ L m news s Q E B F X N T hk hd hu hm1 hm2 hret
  replace N := news2 N hm1 hm2
  dsimp only [TupI] at N
  clear hm1 hm2
  have e1 := V.1
  have e2 := V.2.1
  have e4 := W.1
  have e5 := W.2.1
  have e6 := times_abs V W hAB
  refine wpAny_call ?_
  k_dflt cell_enter
  k_steps
  · exact ret2_endS (p := decN (j + k) (Av * Bv)) hret (times_eq V W) (by k_asm) (by k_asm) sub2 (allLt2 (by assumption))
  · exact absurd (fits_lt e6) (by assumption)
end Mine

namespace Mine
local macro_rules | `(tactic| cell_enter) => `(tactic| (refine' code_def ?k1 ?k2 ?k3 ?k4 ?k5 ?kA ?kF ?kK ?k6 ?k7 ?k8 ?k9 ?kB ?_ ?c2 ?c3 ?c4 ?c5; (case kA => exact rfl); (case kF => exact rfl); (case kK => assumption); (case k1 => k_asm); (case k2 => k_asm); (case k3 => k_asm); (case k4 => k_asm); (case k5 => k_asm); (case k6 => k_is); (case k7 => k_is); (case k8 => ktr_room); (case k9 => first | exact BindsTo.of_eq rfl | exact binds_K (by k_in) rfl (by k_is) rfl rfl rfl); (case c5 => decide); (case kB => exact locs rfl); (case c2 => exact rfl); (case c3 => exact rfl); (case c4 => exact rfl); k_whole; intro g' L' h' FG' F' N' B' X' T'; (try dsimp only); (try k_lift B'); (try k_fold)))
local macro_rules | `(tactic| walk_at "binaryOp Pow int int") => `(tactic| (k_here; (refine pow10 (by first | decide | omega) (by first | decide | omega) ?_)))
set_option maxRecDepth 100000 in
set_option maxHeartbeats 8000000 in
theorem wor_ctr (w : World) (mean : ExcName → Option Value) (mg mb : Str → Option Value) : CWor PySem.Challenge.rw_pb0219_01.row.prog w (hd.heap_39 w.params) hd.view_39 (looseW hd.view_39 [Str.ofString "LedgerError", Str.ofString "decimal"]) mean mg mb 126 := by
  k_fill
  intro at' ta l vs ns hi hfit h0 h2
  intro dp un gd cn cs a ccd cl outer A₀ base h₀ L m news s Q E B F X N T hk hl hd hu hret
  refine wpAny_call ?_
  k_dflt cell_enter
  k_steps
  all_goals (refine' wor_end hret ?x ?y ?z ?F ?N ?l; (case F => k_asm); (case N => k_asm); (case l => assumption); (case x => first | exact wor_abs _ | exact wor_absn _); (case y => exact PySem.W.fmod_lo _ (by decide)); (case z => exact PySem.W.fmod_hi _ (by decide)))
end Mine

namespace Mine
theorem plus_c (w : World) (mean : ExcName → Option Value) (mg mb : Str → Option Value) : CSum (· + ·) PySem.Challenge.rw_pb0219_01.row.prog w (hd.heap_39 w.params) hd.view_39 (looseW hd.view_39 [Str.ofString "LedgerError", Str.ofString "decimal"]) mean mg mb 91 := plus_ctr w mean mg mb (dec_ctr _ _ _ _) (bes_ctr _ _ _ _)
theorem minus_c (w : World) (mean : ExcName → Option Value) (mg mb : Str → Option Value) : CSum (· - ·) PySem.Challenge.rw_pb0219_01.row.prog w (hd.heap_39 w.params) hd.view_39 (looseW hd.view_39 [Str.ofString "LedgerError", Str.ofString "decimal"]) mean mg mb 98 := minus_ctr w mean mg mb (dec_ctr _ _ _ _) (bes_ctr _ _ _ _)
theorem times_c (w : World) (mean : ExcName → Option Value) (mg mb : Str → Option Value) : CTim PySem.Challenge.rw_pb0219_01.row.prog w (hd.heap_39 w.params) hd.view_39 (looseW hd.view_39 [Str.ofString "LedgerError", Str.ofString "decimal"]) mean mg mb 105 := times_ctr w mean mg mb (dec_ctr _ _ _ _)
theorem wor_use {prog : Program} {w : World} {K : Frag} {p : Program} {loose : List Str} {mean : ExcName → Option Value} {mg mb : Str → Option Value} {f : Addr}
  {dp un : Nat} {gd : Option (List Code)} {cn : Str} {cs : Scope} {a : Addr} {ccd : Value} {cl : List (Str × Addr)} {outer : List Env} {A₀ : Around} {base h₀ : Heap} {L : Addr} {m : Str → Option Value} {news : List (Addr × Obj)} {s : Shared} {Q E : Value → Shared → Prop}
  {at' : Int} {ta : Tok} {l : Addr} {vs : List Value} {ns : List Int} (C : CWor prog w K p loose mean mg mb f) (B : Below A₀ base outer h₀) (F : Fr h₀ L s.heap m) (X : K.In h₀) (N : News h₀ L s.heap news) (T : Top p loose mean mg mb h₀) (hk : cs.kind = .function)
    (hl : base.IsList l vs.toArray) (hi : IntsAre vs ns) (hf : ns.length < 2 ^ 62) (h0 : 0 ≤ at') (h1 : at' ≤ 2) (hd : dp + 1 < recursionLimit) (hu : un + 8 * 1 < cLine) (ret : ∀ x y : Int, x.natAbs < 10 ^ 40 → 0 ≤ y → y < 15 → Ret2 h₀ L m news s Q x y) :
    wpAny (model prog w) (ktrTop dp un gd cn cs L a ccd cl outer) (call (.ref f) [.ref l, .int at' ta]) Q E s := C at' ta l vs ns hi hf h0 h1 _ _ _ _ _ _ _ _ _ _ _ _ _ _ _ _ _ _ B F X N T hk hl hd hu ret
end Mine

namespace Mine
/-- (X, Y) tells A with k places, without noughts at its end; A lies under 2^b -/
structure IsD (k b : Nat) (X Y A : Int) : Prop where
  e : decN k A = (X, Y)
  h : A.natAbs < 2 ^ b
  hk : k ≤ 60
theorem IsD.val {k b : Nat} {X Y A : Int} (h : IsD k b X Y A) : Val k X Y A := by
  have a := decN_val k A
  rw [h.e] at a
  exact ⟨a.1, a.2.1, h.hk, a.2.2⟩
theorem IsD.abs {k b : Nat} {X Y A : Int} (h : IsD k b X Y A) : X.natAbs < 2 ^ b := by
  have a := decN_abs k A
  rw [h.e] at a
  exact Nat.lt_of_le_of_lt a h.h
theorem IsD.bits {k b : Nat} {X Y A : Int} (h : IsD k b X Y A) (hb : b ≤ 1000) : Builtin.Int.intBits X ≤ 1048576 := by
  refine Nat.le_trans (m := b) ?_ (by omega)
  exact intBits_le_iff.mpr (h.abs)
theorem IsD.plain {k b : Nat} {X Y A : Int} (h : IsD k b X Y A) : Y = 0 ∨ (Y > 0 ∧ X % 10 ≠ 0) := by
  have a := decN_plain k A
  rw [h.e] at a
  exact a
theorem IsD.neg {k b : Nat} {X Y A : Int} (h : IsD k b X Y A) : IsD k b (-X) Y (-A) := ⟨by rw [decN_neg, h.e], by rw [Int.natAbs_neg]; exact h.h, h.hk⟩
theorem decN_zero : ∀ k : Nat, decN k 0 = (0, 0)
  | 0 => rfl
  | k + 1 => by rw [decN, if_pos (by decide)]; exact decN_zero k
theorem isd_zero {k : Nat} (h : k ≤ 60) : IsD k 1 0 0 0 := ⟨decN_zero k, by decide, h⟩
theorem isd_zero0 : IsD 0 1 0 0 0 := isd_zero (by decide)
theorem isd_unit : IsD 0 1 1 0 1 := ⟨rfl, by decide, by decide⟩
theorem isd_a : IsD 3 14 15 1 1500 := ⟨by decide, by decide, by decide⟩
theorem isd_b : IsD 3 14 25 2 250 := ⟨by decide, by decide, by decide⟩
theorem isd_c : IsD 3 14 5 1 500 := ⟨by decide, by decide, by decide⟩
theorem isd_d : IsD 3 14 1 0 1000 := ⟨by decide, by decide, by decide⟩
theorem isd_e : IsD 3 14 1 3 1 := ⟨by decide, by decide, by decide⟩
theorem isd_f : IsD 3 14 175 2 1750 := ⟨by decide, by decide, by decide⟩
theorem isd_g : IsD 3 14 999 3 999 := ⟨by decide, by decide, by decide⟩
theorem isd_eq {k b c : Nat} {X Y A X' Y' A' : Int} (h : IsD k b X Y A) (h' : IsD k c X' Y' A') (e : A = A') : X = X' ∧ Y = Y' := by
  subst e
  have := h.e.symm.trans h'.e
  exact ⟨congrArg (·.1) this, congrArg (·.2) this⟩
theorem pow2_le {a b : Nat} (h : a ≤ b) : 2 ^ a ≤ 2 ^ b := Nat.pow_le_pow_right (by decide) h
theorem isd_add {k b c : Nat} {X Y A X' Y' A' : Int} (h : IsD k b X Y A) (h' : IsD k c X' Y' A') : IsD k (max b c + 1) (decN k (A + A')).1 (decN k (A + A')).2 (A + A') := by
  refine ⟨rfl, ?_, h.hk⟩
  have a := h.h
  have b' := h'.h
  have p := pow2_le (Nat.le_max_left b c)
  have q := pow2_le (Nat.le_max_right b c)
  rw [Nat.pow_succ]
  omega
theorem isd_sub {k b c : Nat} {X Y A X' Y' A' : Int} (h : IsD k b X Y A) (h' : IsD k c X' Y' A') : IsD k (max b c + 1) (decN k (A - A')).1 (decN k (A - A')).2 (A - A') := by
  refine ⟨rfl, ?_, h.hk⟩
  have a := h.h
  have b' := h'.h
  have p := pow2_le (Nat.le_max_left b c)
  have q := pow2_le (Nat.le_max_right b c)
  rw [Nat.pow_succ]
  omega
theorem isd_mul {j k b c : Nat} {X Y A X' Y' A' : Int} (h : IsD j b X Y A) (h' : IsD k c X' Y' A') (hk : j + k ≤ 60) : IsD (j + k) (b + c) (decN (j + k) (A * A')).1 (decN (j + k) (A * A')).2 (A * A') := by
  refine ⟨rfl, ?_, hk⟩
  rw [Int.natAbs_mul, Nat.pow_add]
  exact Nat.mul_lt_mul'' h.h h'.h
theorem pow390 : 2 ^ 390 ≤ 10 ^ 120 := by
  rw [show (390 : Nat) = 130 * 3 from rfl, show (120 : Nat) = 40 * 3 from rfl, Nat.pow_mul, Nat.pow_mul]
  exact Nat.pow_le_pow_left (by decide) 3
/-- what is known of a drawn worth -/
structure Drw (x y : Int) : Prop where
  hx : x.natAbs < 10 ^ 40
  h0 : 0 ≤ y
  h1 : y < 15
/-- a drawn worth, told with 14 places -/
theorem isd_drawn {x y : Int} (hx : x.natAbs < 10 ^ 40) (h0 : 0 ≤ y) (h1 : y < 15) : IsD 14 180 (decN y.toNat x).1 (decN y.toNat x).2 (x * 10 ^ (14 - y.toNat)) := by
  refine ⟨?_, ?_, by decide⟩
  · have := decN_shift y.toNat x (14 - y.toNat)
    rw [show y.toNat + (14 - y.toNat) = 14 by omega] at this
    exact this
  · rw [Int.natAbs_mul, Int.natAbs_pow]
    have p : (10 : Int).natAbs ^ (14 - y.toNat) ≤ 10 ^ 14 := Nat.pow_le_pow_right (by decide) (by omega)
    refine Nat.lt_of_lt_of_le (Nat.mul_lt_mul_of_lt_of_le hx p (Nat.pow_pos (by decide))) ?_
    rw [← Nat.pow_add]
    decide
theorem dec_long {x y : Int} (h0 : 0 ≤ y) : decN (y + 3).toNat (x * 1000) = decN y.toNat x := by
  have := decN_shift y.toNat x 3
  rw [show y.toNat + 3 = (y + 3).toNat by omega] at this
  exact this

section
variable {prog : Program} {w : World} {K : Frag} {p : Program} {loose : List Str} {mean : ExcName → Option Value} {mg mb : Str → Option Value} {f : Addr}
  {dp un : Nat} {gd : Option (List Code)} {cn : Str} {cs : Scope} {a : Addr} {ccd : Value} {cl : List (Str × Addr)} {outer : List Env} {A₀ : Around} {base h₀ : Heap} {L : Addr} {m : Str → Option Value} {news : List (Addr × Obj)} {s : Shared} {Q E : Value → Shared → Prop}
theorem decL1 {x y : Int} {t u : Tok} (F : Fr h₀ L s.heap m) (X : K.In h₀) (N : News h₀ L s.heap news) (T : Top p loose mean mg mb h₀) (B : Below A₀ base outer h₀) (C : CDec prog w K p loose mean mg mb f) (hk : cs.kind = .function)
    (W : Drw x y) (hd : dp + 1 < recursionLimit) (hu : un + 8 * 1 < cLine) (ret : ∀ X Y A : Int, decN y.toNat x = (X, Y) → IsD 14 180 X Y A → Ret2 h₀ L m news s Q X Y) :
    wpAny (model prog w) (ktrTop dp un gd cn cs L a ccd cl outer) (call (.ref f) [.int x t, .int y u]) Q E s :=
  dec_use C B F X N T hk W.h0 (Int.lt_trans W.h1 (by decide)) hd hu (ret _ _ _ rfl (isd_drawn W.hx W.h0 W.h1))
theorem decL2 {x y X Y : Int} {t u : Tok} (F : Fr h₀ L s.heap m) (X' : K.In h₀) (N : News h₀ L s.heap news) (T : Top p loose mean mg mb h₀) (B : Below A₀ base outer h₀) (C : CDec prog w K p loose mean mg mb f) (hk : cs.kind = .function)
    (hE : decN y.toNat x = (X, Y)) (W : Drw x y) (hd : dp + 1 < recursionLimit) (hu : un + 8 * 1 < cLine) (ret : Ret2 h₀ L m news s Q X Y) :
    wpAny (model prog w) (ktrTop dp un gd cn cs L a ccd cl outer) (call (.ref f) [.int (x * 1000) t, .int (y + 3) u]) Q E s := by
  have h0 := W.h0
  have h1 := W.h1
  refine dec_use C B F X' N T hk (by omega) (by omega) hd hu ?_
  rw [dec_long h0, hE]
  exact ret
theorem worL {at' : Int} {ta : Tok} {l : Addr} {vs : List Value} {ns : List Int} (F : Fr h₀ L s.heap m) (X : K.In h₀) (N : News h₀ L s.heap news) (T : Top p loose mean mg mb h₀) (B : Below A₀ base outer h₀) (C : CWor prog w K p loose mean mg mb f) (hk : cs.kind = .function)
    (hl : base.IsList l vs.toArray) (hi : IntsAre vs ns) (hf : ns.length < 2 ^ 62) (h0 : 0 ≤ at') (h1 : at' ≤ 2) (hd : dp + 1 < recursionLimit) (hu : un + 8 * 1 < cLine) (ret : ∀ x y : Int, Drw x y → Ret2 h₀ L m news s Q x y) :
    wpAny (model prog w) (ktrTop dp un gd cn cs L a ccd cl outer) (call (.ref f) [.ref l, .int at' ta]) Q E s :=
  wor_use C B F X N T hk hl hi hf h0 h1 hd hu fun x y a b c => ret x y ⟨a, b, c⟩
theorem plusL {k b1 b2 : Nat} {D1 D2 : Addr} {x1 y1 x2 y2 A1 A2 : Int} {t1 u1 t2 u2 : Tok} {c1 c2 : Nat} (F : Fr h₀ L s.heap m) (X : K.In h₀) (N : News h₀ L s.heap news) (T : Top p loose mean mg mb h₀) (B : Below A₀ base outer h₀) (C : CSum (· + ·) prog w K p loose mean mg mb f) (hk : cs.kind = .function)
    (m1 : (D1, ({ cls := .type "tuple", data := .seq #[.int x1 t1, .int y1 u1] c1 } : Obj)) ∈ news) (m2 : (D2, ({ cls := .type "tuple", data := .seq #[.int x2 t2, .int y2 u2] c2 } : Obj)) ∈ news) (V : IsD k b1 x1 y1 A1) (W : IsD k b2 x2 y2 A2)
    (h1 : b1 ≤ 1000) (h2 : b2 ≤ 1000) (hd : dp + 2 < recursionLimit) (hu : un + 8 * 2 < cLine) (ret : ∀ X Y : Int, IsD k (max b1 b2 + 1) X Y (A1 + A2) → Ret2 h₀ L m news s Q X Y) :
    wpAny (model prog w) (ktrTop dp un gd cn cs L a ccd cl outer) (call (.ref f) [.ref D1, .ref D2]) Q E s :=
  C k A1 A2 D1 D2 x1 y1 x2 y2 t1 u1 t2 u2 c1 c2 V.val W.val (V.bits h1) (W.bits h2) _ _ _ _ _ _ _ _ _ _ _ _ _ _ _ _ _ _ B F X N T hk hd hu m1 m2 (ret _ _ (isd_add V W))
theorem minusL {k b1 b2 : Nat} {D1 D2 : Addr} {x1 y1 x2 y2 A1 A2 : Int} {t1 u1 t2 u2 : Tok} {c1 c2 : Nat} (F : Fr h₀ L s.heap m) (X : K.In h₀) (N : News h₀ L s.heap news) (T : Top p loose mean mg mb h₀) (B : Below A₀ base outer h₀) (C : CSum (· - ·) prog w K p loose mean mg mb f) (hk : cs.kind = .function)
    (m1 : (D1, ({ cls := .type "tuple", data := .seq #[.int x1 t1, .int y1 u1] c1 } : Obj)) ∈ news) (m2 : (D2, ({ cls := .type "tuple", data := .seq #[.int x2 t2, .int y2 u2] c2 } : Obj)) ∈ news) (V : IsD k b1 x1 y1 A1) (W : IsD k b2 x2 y2 A2)
    (h1 : b1 ≤ 1000) (h2 : b2 ≤ 1000) (hd : dp + 2 < recursionLimit) (hu : un + 8 * 2 < cLine) (ret : ∀ X Y : Int, IsD k (max b1 b2 + 1) X Y (A1 - A2) → Ret2 h₀ L m news s Q X Y) :
    wpAny (model prog w) (ktrTop dp un gd cn cs L a ccd cl outer) (call (.ref f) [.ref D1, .ref D2]) Q E s :=
  C k A1 A2 D1 D2 x1 y1 x2 y2 t1 u1 t2 u2 c1 c2 V.val W.val (V.bits h1) (W.bits h2) _ _ _ _ _ _ _ _ _ _ _ _ _ _ _ _ _ _ B F X N T hk hd hu m1 m2 (ret _ _ (isd_sub V W))
theorem timesL {j k b1 b2 : Nat} {D1 D2 : Addr} {x1 y1 x2 y2 A1 A2 : Int} {t1 u1 t2 u2 : Tok} {c1 c2 : Nat} (F : Fr h₀ L s.heap m) (X : K.In h₀) (N : News h₀ L s.heap news) (T : Top p loose mean mg mb h₀) (B : Below A₀ base outer h₀) (C : CTim prog w K p loose mean mg mb f) (hk : cs.kind = .function)
    (m1 : (D1, ({ cls := .type "tuple", data := .seq #[.int x1 t1, .int y1 u1] c1 } : Obj)) ∈ news) (m2 : (D2, ({ cls := .type "tuple", data := .seq #[.int x2 t2, .int y2 u2] c2 } : Obj)) ∈ news) (V : IsD j b1 x1 y1 A1) (W : IsD k b2 x2 y2 A2)
    (hjk : j + k ≤ 30) (h12 : b1 + b2 ≤ 390) (hd : dp + 3 < recursionLimit) (hu : un + 8 * 3 < cLine) (ret : ∀ X Y : Int, IsD (j + k) (b1 + b2) X Y (A1 * A2) → Ret2 h₀ L m news s Q X Y) :
    wpAny (model prog w) (ktrTop dp un gd cn cs L a ccd cl outer) (call (.ref f) [.ref D1, .ref D2]) Q E s := by
  have D := isd_mul V W (by omega)
  have hb : (A1 * A2).natAbs < 10 ^ 120 := Nat.lt_of_lt_of_le D.h (Nat.le_trans (pow2_le h12) pow390)
  exact C j k A1 A2 D1 D2 x1 y1 x2 y2 t1 u1 t2 u2 c1 c2 V.val W.val hjk (V.bits (by omega)) (W.bits (by omega)) hb _ _ _ _ _ _ _ _ _ _ _ _ _ _ _ _ _ _ B F X N T hk hd hu m1 m2 (ret _ _ D)

theorem allLt_ne {d x : Nat} {o : Obj} : ∀ {l : List (Addr × Obj)}, AllLt d l → (x, o) ∈ l → x ≠ d
  | [], _, h => nomatch h
  | p :: r, ⟨a, b⟩, h => by
    rcases List.mem_cons.mp h with e | h
    · subst e; exact Nat.ne_of_lt a
    · exact allLt_ne b h
theorem ne_same {A : Around} {D1 D2 : Addr} {x1 y1 x2 y2 : Int} {t1 u1 t2 u2 : Tok} {c1 c2 : Nat} (N : News h₀ L s.heap news)
    (m1 : (D1, ({ cls := .type "tuple", data := .seq #[.int x1 t1, .int y1 u1] c1 } : Obj)) ∈ news) (m2 : (D2, ({ cls := .type "tuple", data := .seq #[.int x2 t2, .int y2 u2] c2 } : Obj)) ∈ news) (e : x1 = x2 ∧ y1 = y2) (hu : A.units + 64 < cLine) (h : Q (.bool false) s) :
    wpAny (model prog w) A (compareOp .NotEq (.ref D1) (.ref D2)) Q E s := by
  obtain ⟨rfl, rfl⟩ := e
  refine ne_dataH (reads_tuple_at (News.get N m1) rfl rfl (ReadsAll.cons (Reads.int _ _) (ReadsAll.cons (Reads.int _ _) ReadsAll.nil))) (reads_tuple_at (News.get N m2) rfl rfl (ReadsAll.cons (Reads.int _ _) (ReadsAll.cons (Reads.int _ _) ReadsAll.nil))) ?_ ?_ ?_ ?_
  · rfl
  · rfl
  · exact hu
  · simpa [PyData.eqv, PyData.eqvAll] using h

theorem eq_same {A : Around} {D1 D2 : Addr} {x1 y1 x2 y2 : Int} {t1 u1 t2 u2 : Tok} {c1 c2 : Nat} (N : News h₀ L s.heap news)
    (m1 : (D1, ({ cls := .type "tuple", data := .seq #[.int x1 t1, .int y1 u1] c1 } : Obj)) ∈ news) (m2 : (D2, ({ cls := .type "tuple", data := .seq #[.int x2 t2, .int y2 u2] c2 } : Obj)) ∈ news) (e : x1 = x2 ∧ y1 = y2) (hu : A.units + 64 < cLine) (h : Q (.bool true) s) :
    wpAny (model prog w) A (compareOp .Eq (.ref D1) (.ref D2)) Q E s := by
  obtain ⟨rfl, rfl⟩ := e
  refine eq_dataH (reads_tuple_at (News.get N m1) rfl rfl (ReadsAll.cons (Reads.int _ _) (ReadsAll.cons (Reads.int _ _) ReadsAll.nil))) (reads_tuple_at (News.get N m2) rfl rfl (ReadsAll.cons (Reads.int _ _) (ReadsAll.cons (Reads.int _ _) ReadsAll.nil))) ?_ ?_ ?_ ?_
  · rfl
  · rfl
  · exact hu
  · simpa [PyData.eqv, PyData.eqvAll] using h

/-- _law_is_plain -/
def CPla (prog : Program) (w : World) (K : Frag) (p : Program) (loose : List Str) (mean : ExcName → Option Value) (mg mb : Str → Option Value) (f : Addr) : Prop :=
  ∀ (D1 : Addr) (x1 y1 : Int) (t1 u1 : Tok) (c1 : Nat), (y1 = 0 ∨ (y1 > 0 ∧ x1 % 10 ≠ 0)) →
    Ctr prog w K p loose mean mg mb f 1 [.ref D1] fun h₀ L m s news Q P => TupI D1 x1 y1 t1 u1 c1 ∈ news → (∀ h' tk', Fr h₀ L h' m → News h₀ L h' news → Q (.bool true) { s with heap := h', toks := tk' }) → P
theorem plaL {k b1 : Nat} {D1 : Addr} {x1 y1 A1 : Int} {t1 u1 : Tok} {c1 : Nat} (F : Fr h₀ L s.heap m) (X : K.In h₀) (N : News h₀ L s.heap news) (T : Top p loose mean mg mb h₀) (B : Below A₀ base outer h₀) (C : CPla prog w K p loose mean mg mb f) (hk : cs.kind = .function)
    (m1 : (D1, ({ cls := .type "tuple", data := .seq #[.int x1 t1, .int y1 u1] c1 } : Obj)) ∈ news) (V : IsD k b1 x1 y1 A1)
    (hd : dp + 1 < recursionLimit) (hu : un + 8 * 1 < cLine) (ret : ∀ h' tk', Fr h₀ L h' m → News h₀ L h' news → Q (.bool true) { s with heap := h', toks := tk' }) :
    wpAny (model prog w) (ktrTop dp un gd cn cs L a ccd cl outer) (call (.ref f) [.ref D1]) Q E s :=
  C D1 x1 y1 t1 u1 c1 V.plain _ _ _ _ _ _ _ _ _ _ _ _ _ _ _ _ _ _ B F X N T hk hd hu m1 ret
end
theorem pla_end {h₀ : Heap} {L : Addr} {m : Str → Option Value} {news news' : List (Addr × Obj)} {s : Shared} {Q : Value → Shared → Prop} {b : Bool} {h' : Heap} {tk' : Nat}
    (hret : ∀ h' tk', Fr h₀ L h' m → News h₀ L h' news → Q (.bool true) { s with heap := h', toks := tk' }) (e : b = true) (F : Fr h₀ L h' m) (N : News h₀ L h' news') (hs : ∀ p ∈ news, p ∈ news') : Q (.bool b) { s with heap := h', toks := tk' } := by
  subst e
  exact hret h' tk' F fun p hp => N p (hs p hp)
end Mine

namespace Mine
local macro_rules | `(tactic| cell_enter) => `(tactic| (refine' code_def ?k1 ?k2 ?k3 ?k4 ?k5 ?kA ?kF ?kK ?k6 ?k7 ?k8 ?k9 ?kB ?_ ?c2 ?c3 ?c4 ?c5; (case kA => exact rfl); (case kF => exact rfl); (case kK => assumption); (case k1 => k_asm); (case k2 => k_asm); (case k3 => k_asm); (case k4 => k_asm); (case k5 => k_asm); (case k6 => k_is); (case k7 => k_is); (case k8 => ktr_room); (case k9 => first | exact BindsTo.of_eq rfl | exact binds_K (by k_in) rfl (by k_is) rfl rfl rfl); (case c5 => decide); (case kB => exact locs rfl); (case c2 => exact rfl); (case c3 => exact rfl); (case c4 => exact rfl); k_whole; intro g' L' h' FG' F' N' B' X' T'; (try dsimp only); (try k_lift B'); (try k_fold)))
set_option maxRecDepth 100000 in
set_option maxHeartbeats 8000000 in
theorem pla_ctr (w : World) (mean : ExcName → Option Value) (mg mb : Str → Option Value) : CPla PySem.Challenge.rw_pb0219_01.row.prog w (hd.heap_39 w.params) hd.view_39 (looseW hd.view_39 [Str.ofString "LedgerError", Str.ofString "decimal"]) mean mg mb 133 := by
  k_fill
  intro D1 x1 y1 t1 u1 c1 hp
  intro dp un gd cn cs a ccd cl outer A₀ base h₀ L m news s Q E B F X N T hk hd hu hm1 hret
  replace N := news1 N hm1
  dsimp only [TupI] at N
  clear hm1
  refine wpAny_call ?_
  k_dflt cell_enter
  k_steps
  · exact pla_end hret (by simp_all) (by k_asm) (by k_asm) sub1
  · refine pla_end hret ?_ (by k_asm) (by k_asm) sub1
    rw [fmod10]
    simp only [bne_iff_ne]
    omega
end Mine

open Mine
local macro_rules | `(tactic| walk_at "call ref") => `(tactic| (k_here; k_dflt (refine' decL1 ?F ?X ?N ?T ?B ?C ?k ?p ?d ?u ?_; (case F => k_asm); (case X => k_asm); (case N => k_asm); (case T => k_asm); (case B => k_asm); (case C => exact dec_ctr _ _ _ _); (case k => first | exact rfl | assumption); (case p => assumption); (case d => ktr_room); (case u => ktr_units); k_whole); intro X' Y' A' e' i' D' t' u' c' h' tk' F' N' l'; (dsimp only [TupI] at N' l'); (try k_sweep); (try dsimp only); (try k_fold)))
local macro_rules | `(tactic| walk_at "call ref") => `(tactic| (k_here; k_dflt (refine' decL2 ?F ?X ?N ?T ?B ?C ?k ?p ?q ?d ?u ?_; (case F => k_asm); (case X => k_asm); (case N => k_asm); (case T => k_asm); (case B => k_asm); (case C => exact dec_ctr _ _ _ _); (case k => first | exact rfl | assumption); (case p => assumption); (case q => assumption); (case d => ktr_room); (case u => ktr_units); k_whole); intro D' t' u' c' h' tk' F' N' l'; (dsimp only [TupI] at N' l'); (try k_sweep); (try dsimp only); (try k_fold)))
local macro_rules | `(tactic| walk_at "call ref") => `(tactic| (k_here; k_dflt (refine' worL ?F ?X ?N ?T ?B ?C ?k ?l ?i ?f ?p ?q ?d ?u ?_; (case F => k_asm); (case X => k_asm); (case N => k_asm); (case T => k_asm); (case B => k_asm); (case C => exact wor_ctr _ _ _ _); (case k => first | exact rfl | assumption); (case l => k_asm); (case i => l_ints); (case f => l_fit); (case p => first | decide | assumption | omega); (case q => first | decide | assumption | omega); (case d => ktr_room); (case u => ktr_units); k_whole); intro x' y' w' D' t' u' c' h' tk' F' N' l'; (dsimp only [TupI] at N' l'); (try k_sweep); (try dsimp only); (try k_fold)))
local macro_rules | `(tactic| walk_at "call ref") => `(tactic| (k_here; k_dflt (refine' plaL ?F ?X ?N ?T ?B ?C ?k ?m ?v ?d ?u ?_; (case F => k_asm); (case X => k_asm); (case N => k_asm); (case T => k_asm); (case B => k_asm); (case C => exact pla_ctr _ _ _ _); (case k => first | exact rfl | assumption); (case m => k_mem); (case v => assumption); (case d => ktr_room); (case u => ktr_units); k_whole); intro h' tk' F' N'; (try k_sweep); (try dsimp only); (try k_fold)))
local macro_rules | `(tactic| walk_at "call ref") => `(tactic| (k_here; k_dflt (refine' plusL ?F ?X ?N ?T ?B ?C ?k ?m ?n ?v ?w ?x ?y ?d ?u ?_; (case F => k_asm); (case X => k_asm); (case N => k_asm); (case T => k_asm); (case B => k_asm); (case C => exact plus_c _ _ _ _); (case k => first | exact rfl | assumption); (case m => k_mem); (case n => k_mem); (case v => first | assumption | exact isd_d | exact isd_a | exact isd_b | exact isd_c | exact isd_e | exact isd_zero (by decide) | exact IsD.neg (by assumption)); (case w => first | assumption | exact isd_d | exact isd_a | exact isd_b | exact isd_c | exact isd_e | exact isd_zero (by decide) | exact IsD.neg (by assumption)); (case x => decide); (case y => decide); (case d => ktr_room); (case u => ktr_units); k_whole); intro X' Y' i' D' t' u' c' h' tk' F' N' l'; (dsimp only [TupI] at N' l'); (try k_sweep); (try dsimp only); (try k_fold)))
local macro_rules | `(tactic| walk_at "call ref") => `(tactic| (k_here; k_dflt (refine' minusL ?F ?X ?N ?T ?B ?C ?k ?m ?n ?v ?w ?x ?y ?d ?u ?_; (case F => k_asm); (case X => k_asm); (case N => k_asm); (case T => k_asm); (case B => k_asm); (case C => exact minus_c _ _ _ _); (case k => first | exact rfl | assumption); (case m => k_mem); (case n => k_mem); (case v => first | assumption | exact isd_d | exact isd_a | exact isd_b | exact isd_c | exact isd_e | exact isd_zero (by decide) | exact IsD.neg (by assumption)); (case w => first | assumption | exact isd_d | exact isd_a | exact isd_b | exact isd_c | exact isd_e | exact isd_zero (by decide) | exact IsD.neg (by assumption)); (case x => decide); (case y => decide); (case d => ktr_room); (case u => ktr_units); k_whole); intro X' Y' i' D' t' u' c' h' tk' F' N' l'; (dsimp only [TupI] at N' l'); (try k_sweep); (try dsimp only); (try k_fold)))
local macro_rules | `(tactic| walk_at "call ref") => `(tactic| (k_here; k_dflt (refine' timesL ?F ?X ?N ?T ?B ?C ?k ?m ?n ?v ?w ?x ?y ?d ?u ?_; (case F => k_asm); (case X => k_asm); (case N => k_asm); (case T => k_asm); (case B => k_asm); (case C => exact times_c _ _ _ _); (case k => first | exact rfl | assumption); (case m => k_mem); (case n => k_mem); (case v => first | assumption | exact isd_zero0 | exact isd_unit | exact isd_zero (by decide) | exact IsD.neg (by assumption) | exact isd_a | exact isd_b | exact isd_c | exact isd_d | exact isd_e | exact isd_f | exact isd_g); (case w => first | assumption | exact isd_zero0 | exact isd_unit | exact isd_zero (by decide) | exact IsD.neg (by assumption) | exact isd_a | exact isd_b | exact isd_c | exact isd_d | exact isd_e | exact isd_f | exact isd_g); (case x => decide); (case y => decide); (case d => ktr_room); (case u => ktr_units); k_whole); intro X' Y' i' D' t' u' c' h' tk' F' N' l'; (dsimp only [TupI] at N' l'); (try k_sweep); (try dsimp only); (try k_fold)))
local macro_rules | `(tactic| walk_at "compareOp NotEq ref ref") => `(tactic| (k_here; k_dflt (refine' ne_same ?N ?m ?n ?e ?u ?_; (case N => k_asm); (case m => k_mem); (case n => k_mem); (case e => refine' isd_eq ?v ?w ?z; (case v => first | assumption | exact isd_zero (by decide) | exact isd_f | exact isd_d | exact isd_g | exact IsD.neg (by assumption)); (case w => first | assumption | exact isd_zero (by decide) | exact isd_f | exact isd_d | exact isd_g | exact IsD.neg (by assumption)); (case z => first | rfl | omega | exact Int.mul_comm _ _ | exact Int.mul_add _ _ _ | exact Int.neg_mul _ _ | exact Int.mul_one _ | exact Int.mul_zero _)); (case u => ke_room); k_whole)))
local macro_rules | `(tactic| walk_at "compareOp Eq ref ref") => `(tactic| (k_here; k_dflt (refine' eq_same ?N ?m ?n ?e ?u ?_; (case N => k_asm); (case m => k_mem); (case n => k_mem); (case e => refine' isd_eq ?v ?w ?z; (case v => first | assumption | exact isd_zero (by decide) | exact isd_f | exact isd_d | exact isd_g | exact IsD.neg (by assumption)); (case w => first | assumption | exact isd_zero (by decide) | exact isd_f | exact isd_d | exact isd_g | exact IsD.neg (by assumption)); (case z => first | rfl | omega | exact Int.mul_comm _ _ | exact Int.mul_add _ _ _ | exact Int.neg_mul _ _ | exact Int.mul_one _ | exact Int.mul_zero _)); (case u => ke_room); k_whole)))
local macro_rules | `(tactic| walk_at "CompSrc") => `(tactic| (k_here; k_dflt (first
  | (refine LCg.CompSrc.range (by rfl) (by k_asm) (by k_asm) (by assumption) (by first | decide | rfl) (by first | rfl | decide) (by first | size_fits | exact Nat.le_of_ble_eq_true rfl) ?_; intro g'; lcg_lit)
  | (refine LCg.CompSrc.ledger (by rfl) (by k_asm) (by k_asm) (by k_mem) (by first | size_fits | exact Nat.le_of_ble_eq_true rfl) ?_; intro g'; lcg_lit))))
local macro_rules | `(tactic| k_ne) => `(tactic| (refine neN ?_; (try dsimp only); first | exact allLt_ne (by with_reducible assumption) (by k_mem) | exact Ne.symm (allLt_ne (by with_reducible assumption) (by k_mem))))
local macro_rules | `(tactic| lcg_off) => `(tactic| first | with_reducible assumption | exact True.intro | (refine And.intro ⟨by k_ne, by k_ne, by k_ne⟩ ?_; lcg_off))
local macro_rules | `(tactic| walk_at "CompRest") => `(tactic| (with_unfolding_all first
  | (refine LCg.CompRest.succ ?_; intro v' I' oI' C' oC' D' m' h' tk' E' hv' hC' hx' F' N' off' ne'; (first | lcg_open hv' | (obtain ⟨t9', hv9'⟩ := hv'; subst hv9')))
  | refine LCg.CompRest.zero ?_))
local macro_rules | `(tactic| walk_at "CompRestP") => `(tactic| (with_unfolding_all first
  | (refine LCp.CompRestP.succ ?_; intro v' hv'; lcg_open hv'; refine ⟨_, _, _, _, _, rfl, by k_mem, rfl, rfl, ?_⟩; intro I' oI' C' oC' D' m' h' tk' E' hC' hx' hy' F' N' off' ne')
  | refine LCp.CompRestP.zero ?_))
local macro_rules | `(tactic| walk_at "CompRestT") => `(tactic| (with_unfolding_all first
  | (refine LCt.CompRestT.succ ?_; intro v' I' oI' C' oC' D' m' h' tk' E' hv' hC' hx' F' N' off' ne'; (first | lcg_open hv' | (obtain ⟨t9', hv9'⟩ := hv'; subst hv9')))
  | refine LCt.CompRestT.zero ?_))
local macro_rules | `(tactic| walk_at "CompSrcT") => `(tactic| (k_here; k_dflt (refine LCt.CompSrcT.ledger (by rfl) (by k_asm) (by k_asm) (by k_mem) (by first | size_fits | exact Nat.le_of_ble_eq_true rfl) ?_; intro g'; show LCt.CompRestT _ _ _ _ _ _ _ _ _ _ _ _ _ _ _ _ 6 _ _ _)))
local macro_rules | `(tactic| walk_at "eval ListComp") => `(tactic| (k_here; lct_look; k_dflt (refine LCt.ListComp_T (F₀ := by k_asm) (by with_unfolding_all rfl) (by decide) (by rfl) (by decide) (by rfl) ?_); k_dflt lct_toSrc))
local macro_rules | `(tactic| walk_at "CompRest") => `(tactic| ((rename (_ ∧ _) => hz); clear hz; walk_at "CompRest"))
local macro_rules | `(tactic| walk_at "CompRest") => `(tactic| ((rename (LCg.Off3 _ _ _ _) => hz); clear hz; walk_at "CompRest"))
local macro_rules | `(tactic| walk_at "CompRest") => `(tactic| ((rename (AllLt _ _) => hz); clear hz; walk_at "CompRest"))
local macro_rules | `(tactic| walk_at "CompRestP") => `(tactic| ((rename (_ ∧ _) => hz); clear hz; walk_at "CompRestP"))
local macro_rules | `(tactic| walk_at "CompRestP") => `(tactic| ((rename (LCg.Off3 _ _ _ _) => hz); clear hz; walk_at "CompRestP"))
local macro_rules | `(tactic| walk_at "CompRestP") => `(tactic| ((rename (AllLt _ _) => hz); clear hz; walk_at "CompRestP"))
local macro_rules | `(tactic| walk_at "CompRestT") => `(tactic| ((rename (_ ∧ _) => hz); clear hz; walk_at "CompRestT"))
local macro_rules | `(tactic| walk_at "CompRestT") => `(tactic| ((rename (LCg.Off3 _ _ _ _) => hz); clear hz; walk_at "CompRestT"))
local macro_rules | `(tactic| walk_at "CompRestT") => `(tactic| ((rename (AllLt _ _) => hz); clear hz; walk_at "CompRestT"))
set_option maxRecDepth 100000 in
set_option maxHeartbeats 8000000 in
theorem PySem.Challenge.cw_pb0219_01_holds : PySem.Challenge.rw_pb0219_01.Holds := by
  refine Mine.hd ?_
  k_go0
  (all_goals try k_fold)
  k_steps
