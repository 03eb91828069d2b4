import PyProof.Rows.All
import Wide.All
import OpenK.AllK
import Wide.FinOn
import PySem.Challenge.RW_xm0691_01
open PySem PySem.W PyProof.Rows
set_option Elab.async false
namespace Mine
set_option maxRecDepth 100000 in
set_option maxHeartbeats 8000000 in
open_top hd for PySem.Challenge.rw_xm0691_01
end Mine
namespace Mine
open PySem.Builtin.Int (intBits)

/-- the fraction top / bottom, as a rational number -/
def fr (n d : Int) : Rat := Rat.divInt n d

theorem fr_num {n d : Int} (hd : 0 < d) : (fr n d).num = n.fdiv (Int.gcd n d) := by
  unfold fr
  rw [Rat.num_divInt, Int.sign_eq_one_of_pos hd, Int.one_mul, Int.gcd_comm, Int.fdiv_eq_ediv_of_nonneg _ (Int.natCast_nonneg _)]
theorem fr_den {n d : Int} (hd : 0 < d) : ((fr n d).den : Int) = d.fdiv (Int.gcd n d) := by
  unfold fr
  rw [Rat.den_divInt, if_neg (by omega), Int.gcd_comm, Int.fdiv_eq_ediv_of_nonneg _ (Int.natCast_nonneg _)]
  rw [Int.natCast_ediv, Int.natAbs_of_nonneg (by omega)]
theorem fr_add (a b : Rat) (w : Int) : fr (a.num * (b.den : Int) + w * b.num * (a.den : Int)) ((a.den : Int) * (b.den : Int)) = a + (w : Rat) * b := by
  have ha : ((a.den : Int)) ≠ 0 := by have := a.den_nz; omega
  have hb : ((b.den : Int)) ≠ 0 := by have := b.den_nz; omega
  have e2 : (w : Rat) * b = Rat.divInt (w * b.num) (b.den : Int) := by
    have e3 : (w : Rat) = Rat.divInt w 1 := (Rat.num_divInt_den (w : Rat)).symm
    rw [e3]
    conv => lhs; rw [← Rat.num_divInt_den b]
    rw [Rat.divInt_mul_divInt, Int.one_mul]
  unfold fr
  rw [e2]
  conv => rhs; rw [← Rat.num_divInt_den a]
  rw [Rat.divInt_add_divInt _ _ ha hb]
theorem fr_plus (a b : Rat) : fr (a.num * (b.den : Int) + b.num * (a.den : Int)) ((a.den : Int) * (b.den : Int)) = a + b := by
  have h := fr_add a b 1
  rw [Int.one_mul] at h
  rw [h]
  simp
theorem fr_minus (a b : Rat) : fr (a.num * (b.den : Int) - b.num * (a.den : Int)) ((a.den : Int) * (b.den : Int)) = a - b := by
  have h := fr_add a b (-1)
  have e : a.num * (b.den : Int) - b.num * (a.den : Int) = a.num * (b.den : Int) + -1 * b.num * (a.den : Int) := by
    rw [Int.neg_mul, Int.one_mul, Int.neg_mul]; omega
  rw [e, h]
  grind
theorem fr_times (a b : Rat) : fr (a.num * b.num) ((a.den : Int) * (b.den : Int)) = a * b := by
  unfold fr
  conv => rhs; rw [← Rat.num_divInt_den a, ← Rat.num_divInt_den b]
  rw [Rat.divInt_mul_divInt]
theorem rm1 {d k K n : Nat} (h : d + K < n) (e : Nat.ble (1 + k) K = true) : d + 1 + k < n := by have := Nat.le_of_ble_eq_true e; omega
theorem rm2 {d k K n : Nat} (h : d + K < n) (e : Nat.ble (2 + k) K = true) : d + 1 + 1 + k < n := by have := Nat.le_of_ble_eq_true e; omega
theorem rm3 {d k K n : Nat} (h : d + K < n) (e : Nat.ble (3 + k) K = true) : d + 1 + 1 + 1 + k < n := by have := Nat.le_of_ble_eq_true e; omega
theorem un1 {u k K n : Nat} (h : u + 8 * K < n) (e : Nat.ble (3 + 8 * k) (8 * K) = true) : u + 3 + 8 * k < n := by have := Nat.le_of_ble_eq_true e; omega
theorem un2 {u k K n : Nat} (h : u + 8 * K < n) (e : Nat.ble (6 + 8 * k) (8 * K) = true) : u + 3 + 3 + 8 * k < n := by have := Nat.le_of_ble_eq_true e; omega
theorem un3 {u k K n : Nat} (h : u + 8 * K < n) (e : Nat.ble (9 + 8 * k) (8 * K) = true) : u + 3 + 3 + 3 + 8 * k < n := by have := Nat.le_of_ble_eq_true e; omega
theorem den_pos (a : Rat) : 0 < (a.den : Int) := by have := a.den_nz; omega
theorem dens_pos (a b : Rat) : 0 < (a.den : Int) * (b.den : Int) := Int.mul_pos (den_pos a) (den_pos b)

/-- a rational of few bits -/
def Sm (n : Nat) (r : Rat) : Prop := intBits r.num ≤ n ∧ intBits (r.den : Int) ≤ n
theorem Sm.le {m n : Nat} {r : Rat} (h : Sm m r) (k : m ≤ n) : Sm n r := ⟨Nat.le_trans h.1 k, Nat.le_trans h.2 k⟩
theorem sm_fr {a d : Int} {n : Nat} (hd : 0 < d) (ha : intBits a ≤ n) (hb : intBits d ≤ n) : Sm n (fr a d) := by
  refine ⟨?_, ?_⟩
  · rw [fr_num hd]; exact bits_fdiv ha
  · rw [fr_den hd]; exact bits_fdiv hb
theorem sm_addw {a b : Rat} {w : Int} {m n k : Nat} (ha : Sm m a) (hb : Sm n b) (hw : intBits w ≤ k) : Sm (k + m + n + 1) (a + (w : Rat) * b) := by
  rw [← fr_add]
  refine sm_fr (dens_pos a b) (Nat.le_trans (bits_add (bits_mul ha.1 hb.2) (bits_mul (bits_mul hw hb.1) ha.2)) (by omega)) (Nat.le_trans (bits_mul ha.2 hb.2) (by omega))
theorem sm_add {a b : Rat} {m n : Nat} (ha : Sm m a) (hb : Sm n b) : Sm (m + n + 1) (a + b) := by
  rw [← fr_plus]
  exact sm_fr (dens_pos a b) (Nat.le_trans (bits_add (bits_mul ha.1 hb.2) (bits_mul hb.1 ha.2)) (by omega)) (Nat.le_trans (bits_mul ha.2 hb.2) (by omega))
theorem sm_sub {a b : Rat} {m n : Nat} (ha : Sm m a) (hb : Sm n b) : Sm (m + n + 1) (a - b) := by
  rw [← fr_minus]
  exact sm_fr (dens_pos a b) (Nat.le_trans (bits_sub (bits_mul ha.1 hb.2) (bits_mul hb.1 ha.2)) (by omega)) (Nat.le_trans (bits_mul ha.2 hb.2) (by omega))
theorem sm_mul {a b : Rat} {m n : Nat} (ha : Sm m a) (hb : Sm n b) : Sm (m + n) (a * b) := by
  rw [← fr_times]
  exact sm_fr (dens_pos a b) (bits_mul ha.1 hb.1) (bits_mul ha.2 hb.2)

/-- Euclid's turns -/
def Eu (n d a b : Int) : Prop := 0 ≤ a ∧ 0 ≤ b ∧ 0 < a + b ∧ Int.gcd a b = Int.gcd n d
theorem eu_start {n d : Int} (hd : 0 < d) {a : Int} (ha : a = n.natAbs) : Eu n d a d := by
  subst ha
  exact ⟨by omega, by omega, by omega, by simp [Int.gcd]⟩
theorem eu_turn {n d a b : Int} (h : Eu n d a b) (hb : b ≠ 0) : Eu n d b (a.fmod b) ∧ (a.fmod b).toNat < b.toNat := by
  obtain ⟨h1, h2, h3, h4⟩ := h
  have e : a.fmod b = a % b := Int.fmod_eq_emod_of_nonneg a h2
  have p : 0 < b := by omega
  have q1 := Int.emod_nonneg a hb
  have q2 := Int.emod_lt_of_pos a p
  rw [e]
  refine ⟨⟨h2, q1, by omega, ?_⟩, by omega⟩
  rw [← h4]
  obtain ⟨x, rfl⟩ := Int.eq_ofNat_of_zero_le h1
  obtain ⟨y, rfl⟩ := Int.eq_ofNat_of_zero_le h2
  rw [← Int.natCast_emod]
  show Nat.gcd y (x % y) = Nat.gcd x y
  rw [Nat.gcd_comm y, ← Nat.gcd_rec, Nat.gcd_comm]
theorem eu_end {n d a b : Int} (h : Eu n d a b) (hb : b = 0) : a = (Int.gcd n d : Int) := by
  obtain ⟨h1, h2, h3, h4⟩ := h
  subst hb
  rw [← h4]
  simp [Int.gcd]
  omega
theorem eu_end2 {n d a b : Int} (h : Eu n d a b) (hb : b ≤ 0) : a = (Int.gcd n d : Int) := eu_end h (by have := h.2.1; omega)
theorem gcd_log2 {n d : Int} (hd : 0 < d) (hb : intBits d ≤ 8000) : ((Int.gcd n d : Nat) : Int).natAbs.log2 < 9000 := by
  have h1 : Int.gcd n d ≤ d.natAbs := Nat.le_of_dvd (by omega) (Nat.gcd_dvd_right _ _)
  have h2 := lt_pow_of_bits hb (Nat.le_refl _)
  have h0 := Int.gcd_pos_of_ne_zero_right n (b := d) (by omega)
  rw [Int.natAbs_natCast]
  have h3 : (Int.gcd n d).log2 < 8000 := (Nat.log2_lt (by omega)).mpr (Nat.lt_of_le_of_lt h1 h2)
  omega
theorem gcd_pos {n d : Int} (hd : 0 < d) : (0 : Int) < (Int.gcd n d : Int) := by
  have := Int.gcd_pos_of_ne_zero_right n (b := d) (by omega)
  omega
end Mine
namespace Mine
noncomputable abbrev LO : List Str := looseW hd.view_39 [Str.ofString "fraction"] ++ List.map (fun x => x.name) (recsOf hd.view_39) ++
        List.map (fun x => x.fst) (litsOf hd.view_39) ++
      List.map (fun x => x.name) (clssOf hd.view_39 (looseW hd.view_39 [Str.ofString "fraction"]))

/-- what a call of f is to do, over the ledger news: it comes back with a value and a ledger of Post's kind -/
def Ct (w : World) (f : Addr) (dep : Nat) (news : List (Addr × Obj)) (vs : List Value) (Post : Value → List (Addr × Obj) → Prop) : Prop :=
  ∀ (mean : ExcName → Option Value) (mg mb : Str → Option Value) (dp un : Nat) (gd : Option (List Code)) (cn : Str) (cs : Scope) (a : Addr) (ccd : Value) (cl : List (Str × Addr)) (outer : List Env) (A₀ : Around) (base h₀ : Heap) (L : Addr) (m : Str → Option Value) (s : Shared) (Q E : Value → Shared → Prop),
    Below A₀ base outer h₀ → Fr h₀ L s.heap m → (hd.heap_39 w.params).In h₀ → News h₀ L s.heap news → Top topProg LO mean mg mb h₀ → cs.kind = .function → dp + dep < recursionLimit → un + 8 * dep < cLine →
    (∀ r nw h' tk', Fr h₀ L h' m → News h₀ L h' nw → Post r nw → Q r { s with heap := h', toks := tk' }) →
    wpAny (model PySem.Challenge.rw_xm0691_01.row.prog w) (ktrTop dp un gd cn cs L a ccd cl outer) (call (.ref f) vs) Q E s

abbrev tup2 (x y : Value) (c : Nat) : Obj := { cls := .type "tuple", data := .seq #[x, y] c }
abbrev ratObj (r : Rat) (t u : Tok) (c : Nat) : Obj := tup2 (.int r.num t) (.int (r.den : Int) u) c

/-- it comes back with a new fraction -/
def RatBack (news : List (Addr × Obj)) (q : Rat) (r : Value) (nw : List (Addr × Obj)) : Prop :=
  ∃ (D : Addr) (t u : Tok) (c : Nat), r = .ref D ∧ AllLt D news ∧ nw = (D, ratObj q t u c) :: news

theorem rat_end {h₀ : Heap} {L : Addr} {m : Str → Option Value} {news : List (Addr × Obj)} {s : Shared} {Q : Value → Shared → Prop} {q : Rat}
    (hret : ∀ r nw h' tk', Fr h₀ L h' m → News h₀ L h' nw → RatBack news q r nw → Q r { s with heap := h', toks := tk' })
    {h' : Heap} {tk' : Nat} {nw : List (Addr × Obj)} {D : Addr} {x y : Int} {t u : Tok} {c : Nat} (F : Fr h₀ L h' m) (N : News h₀ L h' nw) (hm : (D, tup2 (.int x t) (.int y u) c) ∈ nw) (hs : ∀ p ∈ news, p ∈ nw) (hl : AllLt D news)
    (ex : x = q.num) (ey : y = (q.den : Int)) : Q (.ref D) { s with heap := h', toks := tk' } := by
  subst ex
  subst ey
  refine hret _ ((D, ratObj q t u c) :: news) _ _ F (fun p hp => ?_) ⟨D, t, u, c, rfl, hl, rfl⟩
  rcases List.mem_cons.mp hp with rfl | hp
  · exact N _ hm
  · exact N p (hs p hp)

local macro_rules | `(tactic| k_room) => `(tactic| ktr_room)
theorem fill_here : PySem.Challenge.rw_xm0691_01 = PySem.Challenge.rw_xm0691_01 ∧ hd.heap_39 = hd.heap_39 := by
  k_fill
  exact ⟨rfl, rfl⟩

set_option maxRecDepth 100000 in
set_option maxHeartbeats 8000000 in
theorem c_lowest (w : World) (news : List (Addr × Obj)) (n d : Int) (t u : Tok) (hd0 : 0 < d) (hdb : PySem.Builtin.Int.intBits d ≤ 8000) : Ct w 173 1 ([] ++ news) [.int n t, .int d u] (RatBack ([] ++ news) (fr n d)) := by
  w_on
  unfold Ct
  intro mean mg mb dp un gd cn cs a ccd cl outer A₀ base h₀ L m s Q E B F X N T hk hdp hun hret
  rw [List.nil_append] at N hret
  refine wpAny_call ?_
  k_dflt (refine' code_def ?k1 ?k2 ?k3 ?k4 ?k5 ?kA ?kF ?kK ?k6 ?k7 ?k8 ?k9 ?kB ?_ ?c2 ?c3 ?c4 ?c5; (case kA => exact rfl); (case kF => exact rfl); (case kK => assumption); (case k1 => k_asm); (case k2 => k_asm); (case k3 => k_asm); (case k4 => k_asm); (case k5 => k_asm); (case k6 => k_is); (case k7 => k_is); (case k8 => ktr_room); (case k9 => first | exact BindsTo.of_eq rfl | exact binds_K (by k_in) rfl (by k_is) rfl rfl rfl); (case c5 => decide); (case kB => exact locs rfl); (case c2 => exact rfl); (case c3 => exact rfl); (case c4 => exact rfl); k_whole; intro g' L' h' FG' F' N' B' X' T'; (try dsimp only); (try k_lift B'); (try k_fold))
  k_with_none
  k_with "state" => first | exact eu_start hd0 (by split <;> omega) | exact (eu_turn (by assumption) (by assumption)).1
  k_with "measure" => exact (eu_turn (by assumption) (by assumption)).2
  k_with "exec While Compare cons nil" => k_while_given ["top", "bottom"] (fun n d script a b => Eu n d a b) (fun n d script a b => b.toNat) "one" "other"
  have hg0 : ((Int.gcd n d : Nat) : Int) ≠ 0 := by have := gcd_pos (n := n) hd0; omega
  have hgl := gcd_log2 (n := n) hd0 hdb
  k_with "binaryOp FloorDiv int int" => first
    | refine floordiv_int hg0 ?_ (Or.inl (PyProof.noPylong_of_log2 hgl))
    | ((rename Eu _ _ _ _ => hEu); (have e9 := eu_end2 hEu (by omega)); (clear hEu); (subst e9); refine floordiv_int hg0 ?_ (Or.inl (PyProof.noPylong_of_log2 hgl)))
  w_strict (k_steps)
  refine' rat_end hret ?kF ?kN ?km ?ks ?kl ?kx ?ky
  case kF => k_asm
  case kN => k_asm
  case km => k_mem
  case ks => kcj_all
  case kl => first | kcu_lt | ((repeat' (rename (_ ∧ _) => l9; obtain ⟨l9a, l9b⟩ := l9)); kcu_lt)
  case kx => exact (fr_num hd0).symm
  case ky => exact (fr_den hd0).symm
set_option maxRecDepth 100000 in
set_option maxHeartbeats 8000000 in
theorem c_fraction (w : World) (news : List (Addr × Obj)) (n d : Int) (t u : Tok) (hd0 : 0 < d) (hdb : PySem.Builtin.Int.intBits d ≤ 8000) : Ct w 61 2 ([] ++ news) [.int n t, .int d u] (RatBack ([] ++ news) (fr n d)) := by
  w_on
  unfold Ct
  intro mean mg mb dp un gd cn cs a ccd cl outer A₀ base h₀ L m s Q E B F X N T hk hdp hun hret
  rw [List.nil_append] at N hret
  refine wpAny_call ?_
  k_dflt (refine' code_def ?k1 ?k2 ?k3 ?k4 ?k5 ?kA ?kF ?kK ?k6 ?k7 ?k8 ?k9 ?kB ?_ ?c2 ?c3 ?c4 ?c5; (case kA => exact rfl); (case kF => exact rfl); (case kK => assumption); (case k1 => k_asm); (case k2 => k_asm); (case k3 => k_asm); (case k4 => k_asm); (case k5 => k_asm); (case k6 => k_is); (case k7 => k_is); (case k8 => ktr_room); (case k9 => first | exact BindsTo.of_eq rfl | exact binds_K (by k_in) rfl (by k_is) rfl rfl rfl); (case c5 => decide); (case kB => exact locs rfl); (case c2 => exact rfl); (case c3 => exact rfl); (case c4 => exact rfl); k_whole; intro g' L' h' FG' F' N' B' X' T'; (try dsimp only); (try k_lift B'); (try k_fold))
  k_with_none
  k_with "state" => first | exact eu_start hd0 (by split <;> omega) | exact (eu_turn (by assumption) (by omega)).1
  k_with "measure" => exact (eu_turn (by assumption) (by omega)).2
  k_with "exec While Compare cons nil" => k_while_given ["one", "other"] (fun n d script a b => Eu n d a b) (fun n d script a b => b.toNat) "first" "second"
  have hg0 : ((Int.gcd n d : Nat) : Int) ≠ 0 := by have := gcd_pos (n := n) hd0; omega
  have hgl := gcd_log2 (n := n) hd0 hdb
  k_with "binaryOp FloorDiv int int" => first
    | refine floordiv_int hg0 ?_ (Or.inl (PyProof.noPylong_of_log2 hgl))
    | ((rename Eu _ _ _ _ => hEu); (have e9 := eu_end2 hEu (by omega)); (clear hEu); (subst e9); refine floordiv_int hg0 ?_ (Or.inl (PyProof.noPylong_of_log2 hgl)))
  w_strict (k_steps)
  any_goals (exfalso; omega)
  refine' rat_end hret ?kF ?kN ?km ?ks ?kl ?kx ?ky
  case kF => k_asm
  case kN => k_asm
  case km => k_mem
  case ks => kcj_all
  case kl => first | kcu_lt | ((repeat' (rename (_ ∧ _) => l9; obtain ⟨l9a, l9b⟩ := l9)); kcu_lt)
  case kx => exact (fr_num hd0).symm
  case ky => exact (fr_den hd0).symm
end Mine
namespace Mine
theorem sm_num {n : Nat} {r : Rat} (h : Sm n r) : PySem.Builtin.Int.intBits r.num ≤ n := h.1
theorem sm_den {n : Nat} {r : Rat} (h : Sm n r) : PySem.Builtin.Int.intBits (r.den : Int) ≤ n := h.2
theorem dens_bits {a b : Rat} (ha : Sm 3000 a) (hb : Sm 3000 b) : PySem.Builtin.Int.intBits ((a.den : Int) * (b.den : Int)) ≤ 8000 := Nat.le_trans (bits_mul ha.2 hb.2) (by decide)
theorem intBits_le_8000 {x : Int} (h0 : -18446744073709551616 < x) (h1 : x < 18446744073709551616) : PySem.Builtin.Int.intBits x ≤ 8000 := Nat.le_trans (intBits_le_64 h0 h1) (by decide)
theorem allLt_mem {D : Addr} : ∀ {l : List (Addr × Obj)}, AllLt D l → ∀ p ∈ l, p.1 < D
  | [], _, _, hp => nomatch hp
  | q :: r, h, p, hp => by
    rcases List.mem_cons.mp hp with rfl | hp
    · exact h.1
    · exact allLt_mem h.2 p hp
theorem allLt_right {D : Addr} {a b : List (Addr × Obj)} (h : AllLt D (a ++ b)) : AllLt D b := allLt_of fun p hp => allLt_mem h p (List.mem_append.mpr (.inr hp))
section
variable {w : World} {f : Addr} {dep : Nat} {front news : List (Addr × Obj)} {vs : List Value} {mean : ExcName → Option Value} {mg mb : Str → Option Value} {dp un : Nat} {gd : Option (List Code)} {cn : Str} {cs : Scope} {a : Addr} {ccd : Value} {cl : List (Str × Addr)} {outer : List Env} {A₀ : Around} {base h₀ : Heap} {L : Addr} {m : Str → Option Value} {s : Shared} {Q E : Value → Shared → Prop}
theorem use_rat {q : Rat} (C : Ct w f dep (front ++ news) vs (RatBack (front ++ news) q)) (hm : ∀ p ∈ front, p ∈ news) (B : Below A₀ base outer h₀) (F : Fr h₀ L s.heap m) (X : (hd.heap_39 w.params).In h₀) (N : News h₀ L s.heap news) (T : Top topProg LO mean mg mb h₀) (hk : cs.kind = .function) (hd : dp + dep < recursionLimit) (hu : un + 8 * dep < cLine)
    (k : ∀ D t u c h' tk', Fr h₀ L h' m → News h₀ L h' ((D, ratObj q t u c) :: news) → AllLt D news → Q (.ref D) { s with heap := h', toks := tk' }) :
    wpAny (model PySem.Challenge.rw_xm0691_01.row.prog w) (ktrTop dp un gd cn cs L a ccd cl outer) (call (.ref f) vs) Q E s := by
  refine C _ _ _ _ _ _ _ _ _ _ _ _ _ _ _ _ _ _ _ _ B F X (fun p hp => ?_) T hk hd hu ?_
  · rcases List.mem_append.mp hp with hp | hp
    · exact N p (hm p hp)
    · exact N p hp
  · rintro r nw h' tk' F' N' ⟨D, t, u, c, rfl, hl, rfl⟩
    refine k D t u c h' tk' F' (fun p hp => ?_) (allLt_right hl)
    rcases List.mem_cons.mp hp with rfl | hp
    · exact N' _ (.head _)
    · exact N' p (.tail _ (List.mem_append.mpr (.inr hp)))
end
/-- it comes back with a new pair of new fractions -/
def PairBack (news : List (Addr × Obj)) (q1 q2 : Rat) (r : Value) (nw : List (Addr × Obj)) : Prop :=
  ∃ (P D1 D2 : Addr) (t u : Tok) (c : Nat) (t' u' : Tok) (c' c'' : Nat), r = .ref P ∧ AllLt P news ∧ AllLt D1 news ∧ AllLt D2 news ∧ nw = (P, tup2 (.ref D1) (.ref D2) c'') :: (D2, ratObj q2 t' u' c') :: (D1, ratObj q1 t u c) :: news
section
variable {w : World} {f : Addr} {dep : Nat} {front news : List (Addr × Obj)} {vs : List Value} {mean : ExcName → Option Value} {mg mb : Str → Option Value} {dp un : Nat} {gd : Option (List Code)} {cn : Str} {cs : Scope} {a : Addr} {ccd : Value} {cl : List (Str × Addr)} {outer : List Env} {A₀ : Around} {base h₀ : Heap} {L : Addr} {m : Str → Option Value} {s : Shared} {Q E : Value → Shared → Prop}
theorem use_pair {q1 q2 : Rat} (C : Ct w f dep (front ++ news) vs (PairBack (front ++ news) q1 q2)) (hm : ∀ p ∈ front, p ∈ news) (B : Below A₀ base outer h₀) (F : Fr h₀ L s.heap m) (X : (hd.heap_39 w.params).In h₀) (N : News h₀ L s.heap news) (T : Top topProg LO mean mg mb h₀) (hk : cs.kind = .function) (hd : dp + dep < recursionLimit) (hu : un + 8 * dep < cLine)
    (k : ∀ P D1 D2 t u c t' u' c' c'' h' tk', Fr h₀ L h' m → News h₀ L h' ((P, tup2 (.ref D1) (.ref D2) c'') :: (D2, ratObj q2 t' u' c') :: (D1, ratObj q1 t u c) :: news) → AllLt P news → AllLt D1 news → AllLt D2 news → Q (.ref P) { s with heap := h', toks := tk' }) :
    wpAny (model PySem.Challenge.rw_xm0691_01.row.prog w) (ktrTop dp un gd cn cs L a ccd cl outer) (call (.ref f) vs) Q E s := by
  refine C _ _ _ _ _ _ _ _ _ _ _ _ _ _ _ _ _ _ _ _ B F X (fun p hp => ?_) T hk hd hu ?_
  · rcases List.mem_append.mp hp with hp | hp
    · exact N p (hm p hp)
    · exact N p hp
  · rintro r nw h' tk' F' N' ⟨P, D1, D2, t, u, c, t', u', c', c'', rfl, hl, hl1, hl2, rfl⟩
    refine k P D1 D2 t u c t' u' c' c'' h' tk' F' (fun p hp => ?_) (allLt_right hl) (allLt_right hl1) (allLt_right hl2)
    rcases List.mem_cons.mp hp with rfl | hp
    · exact N' _ (.head _)
    · rcases List.mem_cons.mp hp with rfl | hp
      · exact N' _ (.tail _ (.head _))
      · rcases List.mem_cons.mp hp with rfl | hp
        · exact N' _ (.tail _ (.tail _ (.head _)))
        · exact N' p (.tail _ (.tail _ (.tail _ (List.mem_append.mpr (.inr hp)))))
end
theorem pair_end {h₀ : Heap} {L : Addr} {m : Str → Option Value} {news : List (Addr × Obj)} {s : Shared} {Q : Value → Shared → Prop} {q1 q2 : Rat}
    (hret : ∀ r nw h' tk', Fr h₀ L h' m → News h₀ L h' nw → PairBack news q1 q2 r nw → Q r { s with heap := h', toks := tk' })
    {h' : Heap} {tk' : Nat} {nw : List (Addr × Obj)} {P D1 D2 : Addr} {t u t' u' : Tok} {c c' c'' : Nat} (F : Fr h₀ L h' m) (N : News h₀ L h' nw) (hm : (P, tup2 (.ref D1) (.ref D2) c'') ∈ nw) (hm1 : (D1, ratObj q1 t u c) ∈ nw) (hm2 : (D2, ratObj q2 t' u' c') ∈ nw) (hs : ∀ p ∈ news, p ∈ nw)
    (hl : AllLt P news) (hl1 : AllLt D1 news) (hl2 : AllLt D2 news) : Q (.ref P) { s with heap := h', toks := tk' } := by
  refine hret _ ((P, tup2 (.ref D1) (.ref D2) c'') :: (D2, ratObj q2 t' u' c') :: (D1, ratObj q1 t u c) :: news) _ _ F (fun p hp => ?_) ⟨P, D1, D2, t, u, c, t', u', c', c'', rfl, hl, hl1, hl2, rfl⟩
  rcases List.mem_cons.mp hp with rfl | hp
  · exact N _ hm
  · rcases List.mem_cons.mp hp with rfl | hp
    · exact N _ hm2
    · rcases List.mem_cons.mp hp with rfl | hp
      · exact N _ hm1
      · exact N p (hs p hp)
local macro_rules | `(tactic| k_room) => `(tactic| ktr_room)
local macro_rules | `(tactic| bits_by_make) => `(tactic| first | exact sm_num (by with_reducible assumption) | exact sm_den (by with_reducible assumption) | with_reducible assumption)
local macro_rules | `(tactic| walk_at "call ref") => `(tactic| k_extra "own call")
theorem rows2 : True := by
  k_with_none
  k_with "own call" => (k_here; (with_reducible show wpAny _ _ (call (Value.ref 173) _) _ _ _); k_dflt (refine' use_rat (c_lowest _ _ _ _ _ _ ?s0 ?s1) ?km ?k1 ?k2 ?k3 ?k4 ?k5 ?kK ?kd ?ku ?_; (case k1 => k_asm); (case k2 => k_asm); (case k3 => k_in); (case k4 => k_asm); (case k5 => k_asm); (case kK => first | exact rfl | assumption); (case km => (repeat' (first | exact List.forall_mem_nil _ | (refine List.forall_mem_cons.mpr (And.intro ?_ ?_)) | k_mem))); (case kd => first | (refine' rm1 ?rh ?re; (case rh => assumption); (case re => exact rfl)) | (refine' rm2 ?rh ?re; (case rh => assumption); (case re => exact rfl)) | (refine' rm3 ?rh ?re; (case rh => assumption); (case re => exact rfl)) | ktr_room); (case ku => first | (refine' un1 ?rh ?re; (case rh => assumption); (case re => exact rfl)) | (refine' un2 ?rh ?re; (case rh => assumption); (case re => exact rfl)) | (refine' un3 ?rh ?re; (case rh => assumption); (case re => exact rfl)) | ktr_units); (case s0 => first | exact dens_pos _ _ | assumption | omega); (case s1 => first | exact dens_bits (by assumption) (by assumption) | assumption | exact intBits_le_8000 (by omega) (by omega)); intro D9 t9 u9 c9 h9 tk9 F9 N9 hl9; (try simp only [AllLt, and_true] at hl9); (try dsimp only); (try k_sweep); (try k_fold)))
  k_with "own call" => (k_here; (with_reducible show wpAny _ _ (call (Value.ref 61) _) _ _ _); k_dflt (refine' use_rat (c_fraction _ _ _ _ _ _ ?s0 ?s1) ?km ?k1 ?k2 ?k3 ?k4 ?k5 ?kK ?kd ?ku ?_; (case k1 => k_asm); (case k2 => k_asm); (case k3 => k_in); (case k4 => k_asm); (case k5 => k_asm); (case kK => first | exact rfl | assumption); (case km => (repeat' (first | exact List.forall_mem_nil _ | (refine List.forall_mem_cons.mpr (And.intro ?_ ?_)) | k_mem))); (case kd => first | (refine' rm1 ?rh ?re; (case rh => assumption); (case re => exact rfl)) | (refine' rm2 ?rh ?re; (case rh => assumption); (case re => exact rfl)) | (refine' rm3 ?rh ?re; (case rh => assumption); (case re => exact rfl)) | ktr_room); (case ku => first | (refine' un1 ?rh ?re; (case rh => assumption); (case re => exact rfl)) | (refine' un2 ?rh ?re; (case rh => assumption); (case re => exact rfl)) | (refine' un3 ?rh ?re; (case rh => assumption); (case re => exact rfl)) | ktr_units); (case s0 => first | exact dens_pos _ _ | assumption | omega); (case s1 => first | exact dens_bits (by assumption) (by assumption) | assumption | exact intBits_le_8000 (by omega) (by omega)); intro D9 t9 u9 c9 h9 tk9 F9 N9 hl9; (try simp only [AllLt, and_true] at hl9); (try dsimp only); (try k_sweep); (try k_fold)))
  exact True.intro
set_option maxRecDepth 100000 in
set_option maxHeartbeats 8000000 in
theorem c_plus (w : World) (news : List (Addr × Obj)) (A B : Addr) (a b : Rat) (ta ua tb ub : Tok) (ca cb : Nat) (ha : Sm 3000 a) (hb : Sm 3000 b) : Ct w 68 3 ([(A, ratObj a ta ua ca), (B, ratObj b tb ub cb)] ++ news) [.ref A, .ref B] (RatBack ([(A, ratObj a ta ua ca), (B, ratObj b tb ub cb)] ++ news) (a + b)) := by
  w_on
  unfold Ct
  intro mean mg mb dp un gd cn cs a9 ccd cl outer A₀ base h₀ L m s Q E B9 F9 X9 N9 T9 hk9 hdp hun hret
  simp only [List.cons_append, List.nil_append] at N9 hret
  refine wpAny_call ?_
  k_dflt (refine' code_def ?k1 ?k2 ?k3 ?k4 ?k5 ?kA ?kF ?kK ?k6 ?k7 ?k8 ?k9 ?kB ?_ ?c2 ?c3 ?c4 ?c5; (case kA => exact rfl); (case kF => exact rfl); (case kK => assumption); (case k1 => k_asm); (case k2 => k_asm); (case k3 => k_asm); (case k4 => k_asm); (case k5 => k_asm); (case k6 => k_is); (case k7 => k_is); (case k8 => ktr_room); (case k9 => first | exact BindsTo.of_eq rfl | exact binds_K (by k_in) rfl (by k_is) rfl rfl rfl); (case c5 => decide); (case kB => exact locs rfl); (case c2 => exact rfl); (case c3 => exact rfl); (case c4 => exact rfl); k_whole; intro g' L' h' FG' F' N' B' X' T'; (try dsimp only); (try k_lift B'); (try k_fold))
  w_strict (k_steps)
  try any_goals (exfalso; omega)
  refine' rat_end hret ?kF ?kN ?km ?ks ?kl ?kx ?ky
  case kF => k_asm
  case kN => k_asm
  case km => k_mem
  case ks => kcj_all
  case kl => first | kcu_lt | ((try simp only [AllLt, and_true]); (repeat' (rename (_ ∧ _) => l9; obtain ⟨l9a, l9b⟩ := l9)); (repeat' (refine And.intro ?_ ?_)) <;> first | trivial | assumption | omega)
  case kx => rw [← fr_plus]
  case ky => rw [← fr_plus]
set_option maxRecDepth 100000 in
set_option maxHeartbeats 8000000 in
theorem c_minus (w : World) (news : List (Addr × Obj)) (A B : Addr) (a b : Rat) (ta ua tb ub : Tok) (ca cb : Nat) (ha : Sm 3000 a) (hb : Sm 3000 b) : Ct w 75 3 ([(A, ratObj a ta ua ca), (B, ratObj b tb ub cb)] ++ news) [.ref A, .ref B] (RatBack ([(A, ratObj a ta ua ca), (B, ratObj b tb ub cb)] ++ news) (a - b)) := by
  w_on
  unfold Ct
  intro mean mg mb dp un gd cn cs a9 ccd cl outer A₀ base h₀ L m s Q E B9 F9 X9 N9 T9 hk9 hdp hun hret
  simp only [List.cons_append, List.nil_append] at N9 hret
  refine wpAny_call ?_
  k_dflt (refine' code_def ?k1 ?k2 ?k3 ?k4 ?k5 ?kA ?kF ?kK ?k6 ?k7 ?k8 ?k9 ?kB ?_ ?c2 ?c3 ?c4 ?c5; (case kA => exact rfl); (case kF => exact rfl); (case kK => assumption); (case k1 => k_asm); (case k2 => k_asm); (case k3 => k_asm); (case k4 => k_asm); (case k5 => k_asm); (case k6 => k_is); (case k7 => k_is); (case k8 => ktr_room); (case k9 => first | exact BindsTo.of_eq rfl | exact binds_K (by k_in) rfl (by k_is) rfl rfl rfl); (case c5 => decide); (case kB => exact locs rfl); (case c2 => exact rfl); (case c3 => exact rfl); (case c4 => exact rfl); k_whole; intro g' L' h' FG' F' N' B' X' T'; (try dsimp only); (try k_lift B'); (try k_fold))
  w_strict (k_steps)
  try any_goals (exfalso; omega)
  refine' rat_end hret ?kF ?kN ?km ?ks ?kl ?kx ?ky
  case kF => k_asm
  case kN => k_asm
  case km => k_mem
  case ks => kcj_all
  case kl => first | kcu_lt | ((try simp only [AllLt, and_true]); (repeat' (rename (_ ∧ _) => l9; obtain ⟨l9a, l9b⟩ := l9)); (repeat' (refine And.intro ?_ ?_)) <;> first | trivial | assumption | omega)
  case kx => rw [← fr_minus]
  case ky => rw [← fr_minus]
set_option maxRecDepth 100000 in
set_option maxHeartbeats 8000000 in
theorem c_times (w : World) (news : List (Addr × Obj)) (A B : Addr) (a b : Rat) (ta ua tb ub : Tok) (ca cb : Nat) (ha : Sm 3000 a) (hb : Sm 3000 b) : Ct w 82 3 ([(A, ratObj a ta ua ca), (B, ratObj b tb ub cb)] ++ news) [.ref A, .ref B] (RatBack ([(A, ratObj a ta ua ca), (B, ratObj b tb ub cb)] ++ news) (a * b)) := by
  w_on
  unfold Ct
  intro mean mg mb dp un gd cn cs a9 ccd cl outer A₀ base h₀ L m s Q E B9 F9 X9 N9 T9 hk9 hdp hun hret
  simp only [List.cons_append, List.nil_append] at N9 hret
  refine wpAny_call ?_
  k_dflt (refine' code_def ?k1 ?k2 ?k3 ?k4 ?k5 ?kA ?kF ?kK ?k6 ?k7 ?k8 ?k9 ?kB ?_ ?c2 ?c3 ?c4 ?c5; (case kA => exact rfl); (case kF => exact rfl); (case kK => assumption); (case k1 => k_asm); (case k2 => k_asm); (case k3 => k_asm); (case k4 => k_asm); (case k5 => k_asm); (case k6 => k_is); (case k7 => k_is); (case k8 => ktr_room); (case k9 => first | exact BindsTo.of_eq rfl | exact binds_K (by k_in) rfl (by k_is) rfl rfl rfl); (case c5 => decide); (case kB => exact locs rfl); (case c2 => exact rfl); (case c3 => exact rfl); (case c4 => exact rfl); k_whole; intro g' L' h' FG' F' N' B' X' T'; (try dsimp only); (try k_lift B'); (try k_fold))
  w_strict (k_steps)
  try any_goals (exfalso; omega)
  refine' rat_end hret ?kF ?kN ?km ?ks ?kl ?kx ?ky
  case kF => k_asm
  case kN => k_asm
  case km => k_mem
  case ks => kcj_all
  case kl => first | kcu_lt | ((try simp only [AllLt, and_true]); (repeat' (rename (_ ∧ _) => l9; obtain ⟨l9a, l9b⟩ := l9)); (repeat' (refine And.intro ?_ ?_)) <;> first | trivial | assumption | omega)
  case kx => rw [← fr_times]
  case ky => rw [← fr_times]
set_option maxRecDepth 100000 in
set_option maxHeartbeats 8000000 in
theorem c_sum (w : World) (news : List (Addr × Obj)) (A B : Addr) (a b : Rat) (ta ua tb ub : Tok) (ca cb : Nat) (way : Int) (tw : Tok) (ha : Sm 3000 a) (hb : Sm 3000 b) (hw : PySem.Builtin.Int.intBits way ≤ 64) : Ct w 180 2 ([(A, ratObj a ta ua ca), (B, ratObj b tb ub cb)] ++ news) [.ref A, .ref B, .int way tw] (RatBack ([(A, ratObj a ta ua ca), (B, ratObj b tb ub cb)] ++ news) (a + (way : Rat) * b)) := by
  w_on
  unfold Ct
  intro mean mg mb dp un gd cn cs a9 ccd cl outer A₀ base h₀ L m s Q E B9 F9 X9 N9 T9 hk9 hdp hun hret
  simp only [List.cons_append, List.nil_append] at N9 hret
  refine wpAny_call ?_
  k_dflt (refine' code_def ?k1 ?k2 ?k3 ?k4 ?k5 ?kA ?kF ?kK ?k6 ?k7 ?k8 ?k9 ?kB ?_ ?c2 ?c3 ?c4 ?c5; (case kA => exact rfl); (case kF => exact rfl); (case kK => assumption); (case k1 => k_asm); (case k2 => k_asm); (case k3 => k_asm); (case k4 => k_asm); (case k5 => k_asm); (case k6 => k_is); (case k7 => k_is); (case k8 => ktr_room); (case k9 => first | exact BindsTo.of_eq rfl | exact binds_K (by k_in) rfl (by k_is) rfl rfl rfl); (case c5 => decide); (case kB => exact locs rfl); (case c2 => exact rfl); (case c3 => exact rfl); (case c4 => exact rfl); k_whole; intro g' L' h' FG' F' N' B' X' T'; (try dsimp only); (try k_lift B'); (try k_fold))
  w_strict (k_steps)
  try any_goals (exfalso; omega)
  refine' rat_end hret ?kF ?kN ?km ?ks ?kl ?kx ?ky
  case kF => k_asm
  case kN => k_asm
  case km => k_mem
  case ks => kcj_all
  case kl => first | kcu_lt | ((try simp only [AllLt, and_true]); (repeat' (rename (_ ∧ _) => l9; obtain ⟨l9a, l9b⟩ := l9)); (repeat' (refine And.intro ?_ ?_)) <;> first | trivial | assumption | omega)
  case kx => rw [← fr_add]
  case ky => rw [← fr_add]
set_option maxRecDepth 100000 in
set_option maxHeartbeats 8000000 in
theorem c_product (w : World) (news : List (Addr × Obj)) (A B : Addr) (a b : Rat) (ta ua tb ub : Tok) (ca cb : Nat) (ha : Sm 3000 a) (hb : Sm 3000 b) : Ct w 187 2 ([(A, ratObj a ta ua ca), (B, ratObj b tb ub cb)] ++ news) [.ref A, .ref B] (RatBack ([(A, ratObj a ta ua ca), (B, ratObj b tb ub cb)] ++ news) (a * b)) := by
  w_on
  unfold Ct
  intro mean mg mb dp un gd cn cs a9 ccd cl outer A₀ base h₀ L m s Q E B9 F9 X9 N9 T9 hk9 hdp hun hret
  simp only [List.cons_append, List.nil_append] at N9 hret
  refine wpAny_call ?_
  k_dflt (refine' code_def ?k1 ?k2 ?k3 ?k4 ?k5 ?kA ?kF ?kK ?k6 ?k7 ?k8 ?k9 ?kB ?_ ?c2 ?c3 ?c4 ?c5; (case kA => exact rfl); (case kF => exact rfl); (case kK => assumption); (case k1 => k_asm); (case k2 => k_asm); (case k3 => k_asm); (case k4 => k_asm); (case k5 => k_asm); (case k6 => k_is); (case k7 => k_is); (case k8 => ktr_room); (case k9 => first | exact BindsTo.of_eq rfl | exact binds_K (by k_in) rfl (by k_is) rfl rfl rfl); (case c5 => decide); (case kB => exact locs rfl); (case c2 => exact rfl); (case c3 => exact rfl); (case c4 => exact rfl); k_whole; intro g' L' h' FG' F' N' B' X' T'; (try dsimp only); (try k_lift B'); (try k_fold))
  w_strict (k_steps)
  try any_goals (exfalso; omega)
  refine' rat_end hret ?kF ?kN ?km ?ks ?kl ?kx ?ky
  case kF => k_asm
  case kN => k_asm
  case km => k_mem
  case ks => kcj_all
  case kl => first | kcu_lt | ((try simp only [AllLt, and_true]); (repeat' (rename (_ ∧ _) => l9; obtain ⟨l9a, l9b⟩ := l9)); (repeat' (refine And.intro ?_ ?_)) <;> first | trivial | assumption | omega)
  case kx => rw [← fr_times]
  case ky => rw [← fr_times]
set_option maxRecDepth 100000 in
set_option maxHeartbeats 8000000 in
theorem c_negated (w : World) (news : List (Addr × Obj)) (A : Addr) (a : Rat) (ta ua : Tok) (ca : Nat) : Ct w 89 1 ([(A, ratObj a ta ua ca)] ++ news) [.ref A] (RatBack ([(A, ratObj a ta ua ca)] ++ news) (-a)) := by
  w_on
  unfold Ct
  intro mean mg mb dp un gd cn cs a9 ccd cl outer A₀ base h₀ L m s Q E B9 F9 X9 N9 T9 hk9 hdp hun hret
  simp only [List.cons_append, List.nil_append] at N9 hret
  refine wpAny_call ?_
  k_dflt (refine' code_def ?k1 ?k2 ?k3 ?k4 ?k5 ?kA ?kF ?kK ?k6 ?k7 ?k8 ?k9 ?kB ?_ ?c2 ?c3 ?c4 ?c5; (case kA => exact rfl); (case kF => exact rfl); (case kK => assumption); (case k1 => k_asm); (case k2 => k_asm); (case k3 => k_asm); (case k4 => k_asm); (case k5 => k_asm); (case k6 => k_is); (case k7 => k_is); (case k8 => ktr_room); (case k9 => first | exact BindsTo.of_eq rfl | exact binds_K (by k_in) rfl (by k_is) rfl rfl rfl); (case c5 => decide); (case kB => exact locs rfl); (case c2 => exact rfl); (case c3 => exact rfl); (case c4 => exact rfl); k_whole; intro g' L' h' FG' F' N' B' X' T'; (try dsimp only); (try k_lift B'); (try k_fold))
  w_strict (k_steps)
  try any_goals (exfalso; omega)
  refine' rat_end hret ?kF ?kN ?km ?ks ?kl ?kx ?ky
  case kF => k_asm
  case kN => k_asm
  case km => k_mem
  case ks => kcj_all
  case kl => first | kcu_lt | ((try simp only [AllLt, and_true]); (repeat' (rename (_ ∧ _) => l9; obtain ⟨l9a, l9b⟩ := l9)); (repeat' (refine And.intro ?_ ?_)) <;> first | trivial | assumption | omega)
  case kx => rfl
  case ky => rfl
end Mine
namespace Mine
theorem sm_one : Sm 1 1 := ⟨by decide, by decide⟩
def half : Rat := fr 1 2
theorem half_num : half.num = 1 := by unfold half; rw [fr_num (by decide)]; decide
theorem half_den : (half.den : Int) = 2 := by unfold half; rw [fr_den (by decide)]; decide
theorem sm_half : Sm 2 half := ⟨by rw [half_num]; decide, by rw [half_den]; decide⟩
local macro_rules | `(tactic| k_room) => `(tactic| ktr_room)
local macro_rules | `(tactic| bits_by_make) => `(tactic| first | exact sm_num (by with_reducible assumption) | exact sm_den (by with_reducible assumption) | with_reducible assumption)
local macro_rules | `(tactic| bits_by_make) => `(tactic| first | with_reducible assumption | ((with_reducible apply sm_addw) <;> bits_by_make) | ((with_reducible apply sm_add) <;> bits_by_make) | ((with_reducible apply sm_sub) <;> bits_by_make) | ((with_reducible apply sm_mul) <;> bits_by_make) | exact sm_one | exact sm_half)
local macro_rules | `(tactic| walk_at "call ref") => `(tactic| k_extra "own call")
theorem rows3 : True := by
  k_with_none
  k_with "own call" => (k_here; (with_reducible show wpAny _ _ (call (Value.ref 68) _) _ _ _); k_dflt (refine' use_rat (c_plus _ _ _ _ _ _ _ _ _ _ _ _ ?s0 ?s1) ?km ?k1 ?k2 ?k3 ?k4 ?k5 ?kK ?kd ?ku ?_; (case k1 => k_asm); (case k2 => k_asm); (case k3 => k_in); (case k4 => k_asm); (case k5 => k_asm); (case kK => first | exact rfl | assumption); (case km => (repeat' (first | exact List.forall_mem_nil _ | (refine List.forall_mem_cons.mpr (And.intro ?_ ?_)) | k_mem))); (case kd => first | (refine' rm1 ?rh ?re; (case rh => assumption); (case re => exact rfl)) | (refine' rm2 ?rh ?re; (case rh => assumption); (case re => exact rfl)) | (refine' rm3 ?rh ?re; (case rh => assumption); (case re => exact rfl)) | ktr_room); (case ku => first | (refine' un1 ?rh ?re; (case rh => assumption); (case re => exact rfl)) | (refine' un2 ?rh ?re; (case rh => assumption); (case re => exact rfl)) | (refine' un3 ?rh ?re; (case rh => assumption); (case re => exact rfl)) | ktr_units); (case s0 => first | assumption | (refine' Sm.le ?sh ?sk; (case sh => bits_by_make); (case sk => decide))); (case s1 => first | assumption | (refine' Sm.le ?sh ?sk; (case sh => bits_by_make); (case sk => decide))); intro D9 t9 u9 c9 h9 tk9 F9 N9 hl9; (try simp only [AllLt, and_true] at hl9); (try dsimp only); (try k_sweep); (try k_fold)))
  k_with "own call" => (k_here; (with_reducible show wpAny _ _ (call (Value.ref 75) _) _ _ _); k_dflt (refine' use_rat (c_minus _ _ _ _ _ _ _ _ _ _ _ _ ?s0 ?s1) ?km ?k1 ?k2 ?k3 ?k4 ?k5 ?kK ?kd ?ku ?_; (case k1 => k_asm); (case k2 => k_asm); (case k3 => k_in); (case k4 => k_asm); (case k5 => k_asm); (case kK => first | exact rfl | assumption); (case km => (repeat' (first | exact List.forall_mem_nil _ | (refine List.forall_mem_cons.mpr (And.intro ?_ ?_)) | k_mem))); (case kd => first | (refine' rm1 ?rh ?re; (case rh => assumption); (case re => exact rfl)) | (refine' rm2 ?rh ?re; (case rh => assumption); (case re => exact rfl)) | (refine' rm3 ?rh ?re; (case rh => assumption); (case re => exact rfl)) | ktr_room); (case ku => first | (refine' un1 ?rh ?re; (case rh => assumption); (case re => exact rfl)) | (refine' un2 ?rh ?re; (case rh => assumption); (case re => exact rfl)) | (refine' un3 ?rh ?re; (case rh => assumption); (case re => exact rfl)) | ktr_units); (case s0 => first | assumption | (refine' Sm.le ?sh ?sk; (case sh => bits_by_make); (case sk => decide))); (case s1 => first | assumption | (refine' Sm.le ?sh ?sk; (case sh => bits_by_make); (case sk => decide))); intro D9 t9 u9 c9 h9 tk9 F9 N9 hl9; (try simp only [AllLt, and_true] at hl9); (try dsimp only); (try k_sweep); (try k_fold)))
  k_with "own call" => (k_here; (with_reducible show wpAny _ _ (call (Value.ref 82) _) _ _ _); k_dflt (refine' use_rat (c_times _ _ _ _ _ _ _ _ _ _ _ _ ?s0 ?s1) ?km ?k1 ?k2 ?k3 ?k4 ?k5 ?kK ?kd ?ku ?_; (case k1 => k_asm); (case k2 => k_asm); (case k3 => k_in); (case k4 => k_asm); (case k5 => k_asm); (case kK => first | exact rfl | assumption); (case km => (repeat' (first | exact List.forall_mem_nil _ | (refine List.forall_mem_cons.mpr (And.intro ?_ ?_)) | k_mem))); (case kd => first | (refine' rm1 ?rh ?re; (case rh => assumption); (case re => exact rfl)) | (refine' rm2 ?rh ?re; (case rh => assumption); (case re => exact rfl)) | (refine' rm3 ?rh ?re; (case rh => assumption); (case re => exact rfl)) | ktr_room); (case ku => first | (refine' un1 ?rh ?re; (case rh => assumption); (case re => exact rfl)) | (refine' un2 ?rh ?re; (case rh => assumption); (case re => exact rfl)) | (refine' un3 ?rh ?re; (case rh => assumption); (case re => exact rfl)) | ktr_units); (case s0 => first | assumption | (refine' Sm.le ?sh ?sk; (case sh => bits_by_make); (case sk => decide))); (case s1 => first | assumption | (refine' Sm.le ?sh ?sk; (case sh => bits_by_make); (case sk => decide))); intro D9 t9 u9 c9 h9 tk9 F9 N9 hl9; (try simp only [AllLt, and_true] at hl9); (try dsimp only); (try k_sweep); (try k_fold)))
  k_with "own call" => (k_here; (with_reducible show wpAny _ _ (call (Value.ref 187) _) _ _ _); k_dflt (refine' use_rat (c_product _ _ _ _ _ _ _ _ _ _ _ _ ?s0 ?s1) ?km ?k1 ?k2 ?k3 ?k4 ?k5 ?kK ?kd ?ku ?_; (case k1 => k_asm); (case k2 => k_asm); (case k3 => k_in); (case k4 => k_asm); (case k5 => k_asm); (case kK => first | exact rfl | assumption); (case km => (repeat' (first | exact List.forall_mem_nil _ | (refine List.forall_mem_cons.mpr (And.intro ?_ ?_)) | k_mem))); (case kd => first | (refine' rm1 ?rh ?re; (case rh => assumption); (case re => exact rfl)) | (refine' rm2 ?rh ?re; (case rh => assumption); (case re => exact rfl)) | (refine' rm3 ?rh ?re; (case rh => assumption); (case re => exact rfl)) | ktr_room); (case ku => first | (refine' un1 ?rh ?re; (case rh => assumption); (case re => exact rfl)) | (refine' un2 ?rh ?re; (case rh => assumption); (case re => exact rfl)) | (refine' un3 ?rh ?re; (case rh => assumption); (case re => exact rfl)) | ktr_units); (case s0 => first | assumption | (refine' Sm.le ?sh ?sk; (case sh => bits_by_make); (case sk => decide))); (case s1 => first | assumption | (refine' Sm.le ?sh ?sk; (case sh => bits_by_make); (case sk => decide))); intro D9 t9 u9 c9 h9 tk9 F9 N9 hl9; (try simp only [AllLt, and_true] at hl9); (try dsimp only); (try k_sweep); (try k_fold)))
  k_with "own call" => (k_here; (with_reducible show wpAny _ _ (call (Value.ref 180) _) _ _ _); k_dflt (refine' use_rat (c_sum _ _ _ _ _ _ _ _ _ _ _ _ _ _ ?s0 ?s1 ?s2) ?km ?k1 ?k2 ?k3 ?k4 ?k5 ?kK ?kd ?ku ?_; (case k1 => k_asm); (case k2 => k_asm); (case k3 => k_in); (case k4 => k_asm); (case k5 => k_asm); (case kK => first | exact rfl | assumption); (case km => (repeat' (first | exact List.forall_mem_nil _ | (refine List.forall_mem_cons.mpr (And.intro ?_ ?_)) | k_mem))); (case kd => first | (refine' rm1 ?rh ?re; (case rh => assumption); (case re => exact rfl)) | (refine' rm2 ?rh ?re; (case rh => assumption); (case re => exact rfl)) | (refine' rm3 ?rh ?re; (case rh => assumption); (case re => exact rfl)) | ktr_room); (case ku => first | (refine' un1 ?rh ?re; (case rh => assumption); (case re => exact rfl)) | (refine' un2 ?rh ?re; (case rh => assumption); (case re => exact rfl)) | (refine' un3 ?rh ?re; (case rh => assumption); (case re => exact rfl)) | ktr_units); (case s0 => first | assumption | (refine' Sm.le ?sh ?sk; (case sh => bits_by_make); (case sk => decide))); (case s1 => first | assumption | (refine' Sm.le ?sh ?sk; (case sh => bits_by_make); (case sk => decide))); (case s2 => first | decide | assumption); intro D9 t9 u9 c9 h9 tk9 F9 N9 hl9; (try simp only [AllLt, and_true] at hl9); (try dsimp only); (try k_sweep); (try k_fold)))
  k_with "own call" => (k_here; (with_reducible show wpAny _ _ (call (Value.ref 89) _) _ _ _); k_dflt (refine' use_rat (c_negated _ _ _ _ _ _ _) ?km ?k1 ?k2 ?k3 ?k4 ?k5 ?kK ?kd ?ku ?_; (case k1 => k_asm); (case k2 => k_asm); (case k3 => k_in); (case k4 => k_asm); (case k5 => k_asm); (case kK => first | exact rfl | assumption); (case km => (repeat' (first | exact List.forall_mem_nil _ | (refine List.forall_mem_cons.mpr (And.intro ?_ ?_)) | k_mem))); (case kd => first | (refine' rm1 ?rh ?re; (case rh => assumption); (case re => exact rfl)) | (refine' rm2 ?rh ?re; (case rh => assumption); (case re => exact rfl)) | (refine' rm3 ?rh ?re; (case rh => assumption); (case re => exact rfl)) | ktr_room); (case ku => first | (refine' un1 ?rh ?re; (case rh => assumption); (case re => exact rfl)) | (refine' un2 ?rh ?re; (case rh => assumption); (case re => exact rfl)) | (refine' un3 ?rh ?re; (case rh => assumption); (case re => exact rfl)) | ktr_units); intro D9 t9 u9 c9 h9 tk9 F9 N9 hl9; (try simp only [AllLt, and_true] at hl9); (try dsimp only); (try k_sweep); (try k_fold)))
  exact True.intro
set_option maxRecDepth 100000 in
set_option maxHeartbeats 8000000 in
theorem c_moved (w : World) (news : List (Addr × Obj)) (P P1 P2 : Addr) (p1 p2 : Rat) (tp1 up1 tp2 up2 : Tok) (cp cp1 cp2 : Nat) (V V1 V2 : Addr) (v1 v2 : Rat) (tv1 uv1 tv2 uv2 : Tok) (cv cv1 cv2 : Nat) (hp1 : Sm 200 p1) (hp2 : Sm 200 p2) (hv1 : Sm 200 v1) (hv2 : Sm 200 v2) : Ct w 103 4 ([(P, tup2 (.ref P1) (.ref P2) cp), (P1, ratObj p1 tp1 up1 cp1), (P2, ratObj p2 tp2 up2 cp2), (V, tup2 (.ref V1) (.ref V2) cv), (V1, ratObj v1 tv1 uv1 cv1), (V2, ratObj v2 tv2 uv2 cv2)] ++ news) [.ref P, .ref V] (PairBack ([(P, tup2 (.ref P1) (.ref P2) cp), (P1, ratObj p1 tp1 up1 cp1), (P2, ratObj p2 tp2 up2 cp2), (V, tup2 (.ref V1) (.ref V2) cv), (V1, ratObj v1 tv1 uv1 cv1), (V2, ratObj v2 tv2 uv2 cv2)] ++ news) (p1 + v1) (p2 + v2)) := by
  w_on
  unfold Ct
  intro mean mg mb dp un gd cn cs a9 ccd cl outer A₀ base h₀ L m s Q E B9 F9 X9 N9 T9 hk9 hdp hun hret
  simp only [List.cons_append, List.nil_append] at N9 hret
  refine wpAny_call ?_
  k_dflt (refine' code_def ?k1 ?k2 ?k3 ?k4 ?k5 ?kA ?kF ?kK ?k6 ?k7 ?k8 ?k9 ?kB ?_ ?c2 ?c3 ?c4 ?c5; (case kA => exact rfl); (case kF => exact rfl); (case kK => assumption); (case k1 => k_asm); (case k2 => k_asm); (case k3 => k_asm); (case k4 => k_asm); (case k5 => k_asm); (case k6 => k_is); (case k7 => k_is); (case k8 => ktr_room); (case k9 => first | exact BindsTo.of_eq rfl | exact binds_K (by k_in) rfl (by k_is) rfl rfl rfl); (case c5 => decide); (case kB => exact locs rfl); (case c2 => exact rfl); (case c3 => exact rfl); (case c4 => exact rfl); k_whole; intro g' L' h' FG' F' N' B' X' T'; (try dsimp only); (try k_lift B'); (try k_fold))
  w_strict (k_steps)
  try any_goals (exfalso; omega)
  refine' pair_end hret ?kF ?kN ?km ?km1 ?km2 ?ks ?kl ?kl1 ?kl2
  case kF => k_asm
  case kN => k_asm
  case km => k_mem
  case km1 => k_mem
  case km2 => k_mem
  case ks => kcj_all
  case kl => first | kcu_lt | ((try simp only [AllLt, and_true]); (repeat' (rename (_ ∧ _) => l9; obtain ⟨l9a, l9b⟩ := l9)); (repeat' (refine And.intro ?_ ?_)) <;> first | trivial | assumption | omega)
  case kl1 => first | kcu_lt | ((try simp only [AllLt, and_true]); (repeat' (rename (_ ∧ _) => l9; obtain ⟨l9a, l9b⟩ := l9)); (repeat' (refine And.intro ?_ ?_)) <;> first | trivial | assumption | omega)
  case kl2 => first | kcu_lt | ((try simp only [AllLt, and_true]); (repeat' (rename (_ ∧ _) => l9; obtain ⟨l9a, l9b⟩ := l9)); (repeat' (refine And.intro ?_ ?_)) <;> first | trivial | assumption | omega)
set_option maxRecDepth 100000 in
set_option maxHeartbeats 8000000 in
theorem c_between (w : World) (news : List (Addr × Obj)) (P P1 P2 : Addr) (p1 p2 : Rat) (tp1 up1 tp2 up2 : Tok) (cp cp1 cp2 : Nat) (R R1 R2 : Addr) (q1 q2 : Rat) (tq1 uq1 tq2 uq2 : Tok) (cq cq1 cq2 : Nat) (hp1 : Sm 200 p1) (hp2 : Sm 200 p2) (hq1 : Sm 200 q1) (hq2 : Sm 200 q2) : Ct w 110 4 ([(P, tup2 (.ref P1) (.ref P2) cp), (P1, ratObj p1 tp1 up1 cp1), (P2, ratObj p2 tp2 up2 cp2), (R, tup2 (.ref R1) (.ref R2) cq), (R1, ratObj q1 tq1 uq1 cq1), (R2, ratObj q2 tq2 uq2 cq2)] ++ news) [.ref P, .ref R] (PairBack ([(P, tup2 (.ref P1) (.ref P2) cp), (P1, ratObj p1 tp1 up1 cp1), (P2, ratObj p2 tp2 up2 cp2), (R, tup2 (.ref R1) (.ref R2) cq), (R1, ratObj q1 tq1 uq1 cq1), (R2, ratObj q2 tq2 uq2 cq2)] ++ news) (q1 - p1) (q2 - p2)) := by
  w_on
  unfold Ct
  intro mean mg mb dp un gd cn cs a9 ccd cl outer A₀ base h₀ L m s Q E B9 F9 X9 N9 T9 hk9 hdp hun hret
  simp only [List.cons_append, List.nil_append] at N9 hret
  refine wpAny_call ?_
  k_dflt (refine' code_def ?k1 ?k2 ?k3 ?k4 ?k5 ?kA ?kF ?kK ?k6 ?k7 ?k8 ?k9 ?kB ?_ ?c2 ?c3 ?c4 ?c5; (case kA => exact rfl); (case kF => exact rfl); (case kK => assumption); (case k1 => k_asm); (case k2 => k_asm); (case k3 => k_asm); (case k4 => k_asm); (case k5 => k_asm); (case k6 => k_is); (case k7 => k_is); (case k8 => ktr_room); (case k9 => first | exact BindsTo.of_eq rfl | exact binds_K (by k_in) rfl (by k_is) rfl rfl rfl); (case c5 => decide); (case kB => exact locs rfl); (case c2 => exact rfl); (case c3 => exact rfl); (case c4 => exact rfl); k_whole; intro g' L' h' FG' F' N' B' X' T'; (try dsimp only); (try k_lift B'); (try k_fold))
  w_strict (k_steps)
  try any_goals (exfalso; omega)
  refine' pair_end hret ?kF ?kN ?km ?km1 ?km2 ?ks ?kl ?kl1 ?kl2
  case kF => k_asm
  case kN => k_asm
  case km => k_mem
  case km1 => k_mem
  case km2 => k_mem
  case ks => kcj_all
  case kl => first | kcu_lt | ((try simp only [AllLt, and_true]); (repeat' (rename (_ ∧ _) => l9; obtain ⟨l9a, l9b⟩ := l9)); (repeat' (refine And.intro ?_ ?_)) <;> first | trivial | assumption | omega)
  case kl1 => first | kcu_lt | ((try simp only [AllLt, and_true]); (repeat' (rename (_ ∧ _) => l9; obtain ⟨l9a, l9b⟩ := l9)); (repeat' (refine And.intro ?_ ?_)) <;> first | trivial | assumption | omega)
  case kl2 => first | kcu_lt | ((try simp only [AllLt, and_true]); (repeat' (rename (_ ∧ _) => l9; obtain ⟨l9a, l9b⟩ := l9)); (repeat' (refine And.intro ?_ ?_)) <;> first | trivial | assumption | omega)
set_option maxRecDepth 100000 in
set_option maxHeartbeats 8000000 in
theorem c_scaled (w : World) (news : List (Addr × Obj)) (P P1 P2 : Addr) (p1 p2 : Rat) (tp1 up1 tp2 up2 : Tok) (cp cp1 cp2 : Nat) (F : Addr) (f : Rat) (tf uf : Tok) (cf : Nat) (hp1 : Sm 200 p1) (hp2 : Sm 200 p2) (hf : Sm 200 f) : Ct w 117 4 ([(P, tup2 (.ref P1) (.ref P2) cp), (P1, ratObj p1 tp1 up1 cp1), (P2, ratObj p2 tp2 up2 cp2), (F, ratObj f tf uf cf)] ++ news) [.ref P, .ref F] (PairBack ([(P, tup2 (.ref P1) (.ref P2) cp), (P1, ratObj p1 tp1 up1 cp1), (P2, ratObj p2 tp2 up2 cp2), (F, ratObj f tf uf cf)] ++ news) (p1 * f) (p2 * f)) := by
  w_on
  unfold Ct
  intro mean mg mb dp un gd cn cs a9 ccd cl outer A₀ base h₀ L m s Q E B9 F9 X9 N9 T9 hk9 hdp hun hret
  simp only [List.cons_append, List.nil_append] at N9 hret
  refine wpAny_call ?_
  k_dflt (refine' code_def ?k1 ?k2 ?k3 ?k4 ?k5 ?kA ?kF ?kK ?k6 ?k7 ?k8 ?k9 ?kB ?_ ?c2 ?c3 ?c4 ?c5; (case kA => exact rfl); (case kF => exact rfl); (case kK => assumption); (case k1 => k_asm); (case k2 => k_asm); (case k3 => k_asm); (case k4 => k_asm); (case k5 => k_asm); (case k6 => k_is); (case k7 => k_is); (case k8 => ktr_room); (case k9 => first | exact BindsTo.of_eq rfl | exact binds_K (by k_in) rfl (by k_is) rfl rfl rfl); (case c5 => decide); (case kB => exact locs rfl); (case c2 => exact rfl); (case c3 => exact rfl); (case c4 => exact rfl); k_whole; intro g' L' h' FG' F' N' B' X' T'; (try dsimp only); (try k_lift B'); (try k_fold))
  w_strict (k_steps)
  try any_goals (exfalso; omega)
  refine' pair_end hret ?kF ?kN ?km ?km1 ?km2 ?ks ?kl ?kl1 ?kl2
  case kF => k_asm
  case kN => k_asm
  case km => k_mem
  case km1 => k_mem
  case km2 => k_mem
  case ks => kcj_all
  case kl => first | kcu_lt | ((try simp only [AllLt, and_true]); (repeat' (rename (_ ∧ _) => l9; obtain ⟨l9a, l9b⟩ := l9)); (repeat' (refine And.intro ?_ ?_)) <;> first | trivial | assumption | omega)
  case kl1 => first | kcu_lt | ((try simp only [AllLt, and_true]); (repeat' (rename (_ ∧ _) => l9; obtain ⟨l9a, l9b⟩ := l9)); (repeat' (refine And.intro ?_ ?_)) <;> first | trivial | assumption | omega)
  case kl2 => first | kcu_lt | ((try simp only [AllLt, and_true]); (repeat' (rename (_ ∧ _) => l9; obtain ⟨l9a, l9b⟩ := l9)); (repeat' (refine And.intro ?_ ?_)) <;> first | trivial | assumption | omega)
set_option maxRecDepth 100000 in
set_option maxHeartbeats 8000000 in
theorem c_opposite (w : World) (news : List (Addr × Obj)) (P P1 P2 : Addr) (p1 p2 : Rat) (tp1 up1 tp2 up2 : Tok) (cp cp1 cp2 : Nat) (hp1 : Sm 200 p1) (hp2 : Sm 200 p2) : Ct w 124 4 ([(P, tup2 (.ref P1) (.ref P2) cp), (P1, ratObj p1 tp1 up1 cp1), (P2, ratObj p2 tp2 up2 cp2)] ++ news) [.ref P] (PairBack ([(P, tup2 (.ref P1) (.ref P2) cp), (P1, ratObj p1 tp1 up1 cp1), (P2, ratObj p2 tp2 up2 cp2)] ++ news) (-p1) (-p2)) := by
  w_on
  unfold Ct
  intro mean mg mb dp un gd cn cs a9 ccd cl outer A₀ base h₀ L m s Q E B9 F9 X9 N9 T9 hk9 hdp hun hret
  simp only [List.cons_append, List.nil_append] at N9 hret
  refine wpAny_call ?_
  k_dflt (refine' code_def ?k1 ?k2 ?k3 ?k4 ?k5 ?kA ?kF ?kK ?k6 ?k7 ?k8 ?k9 ?kB ?_ ?c2 ?c3 ?c4 ?c5; (case kA => exact rfl); (case kF => exact rfl); (case kK => assumption); (case k1 => k_asm); (case k2 => k_asm); (case k3 => k_asm); (case k4 => k_asm); (case k5 => k_asm); (case k6 => k_is); (case k7 => k_is); (case k8 => ktr_room); (case k9 => first | exact BindsTo.of_eq rfl | exact binds_K (by k_in) rfl (by k_is) rfl rfl rfl); (case c5 => decide); (case kB => exact locs rfl); (case c2 => exact rfl); (case c3 => exact rfl); (case c4 => exact rfl); k_whole; intro g' L' h' FG' F' N' B' X' T'; (try dsimp only); (try k_lift B'); (try k_fold))
  w_strict (k_steps)
  try any_goals (exfalso; omega)
  refine' pair_end hret ?kF ?kN ?km ?km1 ?km2 ?ks ?kl ?kl1 ?kl2
  case kF => k_asm
  case kN => k_asm
  case km => k_mem
  case km1 => k_mem
  case km2 => k_mem
  case ks => kcj_all
  case kl => first | kcu_lt | ((try simp only [AllLt, and_true]); (repeat' (rename (_ ∧ _) => l9; obtain ⟨l9a, l9b⟩ := l9)); (repeat' (refine And.intro ?_ ?_)) <;> first | trivial | assumption | omega)
  case kl1 => first | kcu_lt | ((try simp only [AllLt, and_true]); (repeat' (rename (_ ∧ _) => l9; obtain ⟨l9a, l9b⟩ := l9)); (repeat' (refine And.intro ?_ ?_)) <;> first | trivial | assumption | omega)
  case kl2 => first | kcu_lt | ((try simp only [AllLt, and_true]); (repeat' (rename (_ ∧ _) => l9; obtain ⟨l9a, l9b⟩ := l9)); (repeat' (refine And.intro ?_ ?_)) <;> first | trivial | assumption | omega)
set_option maxRecDepth 100000 in
set_option maxHeartbeats 8000000 in
theorem c_dot (w : World) (news : List (Addr × Obj)) (P P1 P2 : Addr) (p1 p2 : Rat) (tp1 up1 tp2 up2 : Tok) (cp cp1 cp2 : Nat) (R R1 R2 : Addr) (q1 q2 : Rat) (tq1 uq1 tq2 uq2 : Tok) (cq cq1 cq2 : Nat) (hp1 : Sm 200 p1) (hp2 : Sm 200 p2) (hq1 : Sm 200 q1) (hq2 : Sm 200 q2) : Ct w 145 5 ([(P, tup2 (.ref P1) (.ref P2) cp), (P1, ratObj p1 tp1 up1 cp1), (P2, ratObj p2 tp2 up2 cp2), (R, tup2 (.ref R1) (.ref R2) cq), (R1, ratObj q1 tq1 uq1 cq1), (R2, ratObj q2 tq2 uq2 cq2)] ++ news) [.ref P, .ref R] (RatBack ([(P, tup2 (.ref P1) (.ref P2) cp), (P1, ratObj p1 tp1 up1 cp1), (P2, ratObj p2 tp2 up2 cp2), (R, tup2 (.ref R1) (.ref R2) cq), (R1, ratObj q1 tq1 uq1 cq1), (R2, ratObj q2 tq2 uq2 cq2)] ++ news) (p1 * q1 + p2 * q2)) := by
  w_on
  unfold Ct
  intro mean mg mb dp un gd cn cs a9 ccd cl outer A₀ base h₀ L m s Q E B9 F9 X9 N9 T9 hk9 hdp hun hret
  simp only [List.cons_append, List.nil_append] at N9 hret
  refine wpAny_call ?_
  k_dflt (refine' code_def ?k1 ?k2 ?k3 ?k4 ?k5 ?kA ?kF ?kK ?k6 ?k7 ?k8 ?k9 ?kB ?_ ?c2 ?c3 ?c4 ?c5; (case kA => exact rfl); (case kF => exact rfl); (case kK => assumption); (case k1 => k_asm); (case k2 => k_asm); (case k3 => k_asm); (case k4 => k_asm); (case k5 => k_asm); (case k6 => k_is); (case k7 => k_is); (case k8 => ktr_room); (case k9 => first | exact BindsTo.of_eq rfl | exact binds_K (by k_in) rfl (by k_is) rfl rfl rfl); (case c5 => decide); (case kB => exact locs rfl); (case c2 => exact rfl); (case c3 => exact rfl); (case c4 => exact rfl); k_whole; intro g' L' h' FG' F' N' B' X' T'; (try dsimp only); (try k_lift B'); (try k_fold))
  w_strict (k_steps)
  try any_goals (exfalso; omega)
  refine' rat_end hret ?kF ?kN ?km ?ks ?kl ?kx ?ky
  case kF => k_asm
  case kN => k_asm
  case km => k_mem
  case ks => kcj_all
  case kl => first | kcu_lt | ((try simp only [AllLt, and_true]); (repeat' (rename (_ ∧ _) => l9; obtain ⟨l9a, l9b⟩ := l9)); (repeat' (refine And.intro ?_ ?_)) <;> first | trivial | assumption | omega)
  case kx => rfl
  case ky => rfl
set_option maxRecDepth 100000 in
set_option maxHeartbeats 8000000 in
theorem c_cross (w : World) (news : List (Addr × Obj)) (P P1 P2 : Addr) (p1 p2 : Rat) (tp1 up1 tp2 up2 : Tok) (cp cp1 cp2 : Nat) (R R1 R2 : Addr) (q1 q2 : Rat) (tq1 uq1 tq2 uq2 : Tok) (cq cq1 cq2 : Nat) (hp1 : Sm 200 p1) (hp2 : Sm 200 p2) (hq1 : Sm 200 q1) (hq2 : Sm 200 q2) : Ct w 152 5 ([(P, tup2 (.ref P1) (.ref P2) cp), (P1, ratObj p1 tp1 up1 cp1), (P2, ratObj p2 tp2 up2 cp2), (R, tup2 (.ref R1) (.ref R2) cq), (R1, ratObj q1 tq1 uq1 cq1), (R2, ratObj q2 tq2 uq2 cq2)] ++ news) [.ref P, .ref R] (RatBack ([(P, tup2 (.ref P1) (.ref P2) cp), (P1, ratObj p1 tp1 up1 cp1), (P2, ratObj p2 tp2 up2 cp2), (R, tup2 (.ref R1) (.ref R2) cq), (R1, ratObj q1 tq1 uq1 cq1), (R2, ratObj q2 tq2 uq2 cq2)] ++ news) (p1 * q2 - p2 * q1)) := by
  w_on
  unfold Ct
  intro mean mg mb dp un gd cn cs a9 ccd cl outer A₀ base h₀ L m s Q E B9 F9 X9 N9 T9 hk9 hdp hun hret
  simp only [List.cons_append, List.nil_append] at N9 hret
  refine wpAny_call ?_
  k_dflt (refine' code_def ?k1 ?k2 ?k3 ?k4 ?k5 ?kA ?kF ?kK ?k6 ?k7 ?k8 ?k9 ?kB ?_ ?c2 ?c3 ?c4 ?c5; (case kA => exact rfl); (case kF => exact rfl); (case kK => assumption); (case k1 => k_asm); (case k2 => k_asm); (case k3 => k_asm); (case k4 => k_asm); (case k5 => k_asm); (case k6 => k_is); (case k7 => k_is); (case k8 => ktr_room); (case k9 => first | exact BindsTo.of_eq rfl | exact binds_K (by k_in) rfl (by k_is) rfl rfl rfl); (case c5 => decide); (case kB => exact locs rfl); (case c2 => exact rfl); (case c3 => exact rfl); (case c4 => exact rfl); k_whole; intro g' L' h' FG' F' N' B' X' T'; (try dsimp only); (try k_lift B'); (try k_fold))
  w_strict (k_steps)
  try any_goals (exfalso; omega)
  refine' rat_end hret ?kF ?kN ?km ?ks ?kl ?kx ?ky
  case kF => k_asm
  case kN => k_asm
  case km => k_mem
  case ks => kcj_all
  case kl => first | kcu_lt | ((try simp only [AllLt, and_true]); (repeat' (rename (_ ∧ _) => l9; obtain ⟨l9a, l9b⟩ := l9)); (repeat' (refine And.intro ?_ ?_)) <;> first | trivial | assumption | omega)
  case kx => rfl
  case ky => rfl
end Mine
namespace Mine
theorem along_eq (p q f : Rat) : p + (q - p) * f = p * (1 - f) + q * f := by grind
theorem half_two : half * 2 = 1 := by
  have h : half = Rat.divInt 1 2 := rfl
  rw [h, Rat.divInt_eq_div]
  have e1 : ((1 : Int) : Rat) = 1 := rfl
  have e2 : ((2 : Int) : Rat) = 2 := rfl
  rw [e1, e2]
  grind
theorem middle_eq (p q : Rat) : p * (1 - half) + q * half = (p + q) * half := by
  have h := half_two
  grind
theorem way_one (a b : Rat) : a + ((1 : Int) : Rat) * b = a + b := by
  have e1 : ((1 : Int) : Rat) = 1 := rfl
  rw [e1]; grind
theorem way_neg (a b : Rat) : a + ((-1 : Int) : Rat) * b = a - b := by
  have e1 : ((-1 : Int) : Rat) = -1 := rfl
  rw [e1]; grind
theorem c_sum_p (w : World) (news : List (Addr × Obj)) (A B : Addr) (a b : Rat) (ta ua tb ub : Tok) (ca cb : Nat) (tw : Tok) (ha : Sm 3000 a) (hb : Sm 3000 b) : Ct w 180 2 ([(A, ratObj a ta ua ca), (B, ratObj b tb ub cb)] ++ news) [.ref A, .ref B, .int 1 tw] (RatBack ([(A, ratObj a ta ua ca), (B, ratObj b tb ub cb)] ++ news) (a + b)) := by
  have h := c_sum w news A B a b ta ua tb ub ca cb 1 tw ha hb (by decide)
  rw [way_one] at h
  exact h
theorem c_sum_m (w : World) (news : List (Addr × Obj)) (A B : Addr) (a b : Rat) (ta ua tb ub : Tok) (ca cb : Nat) (tw : Tok) (ha : Sm 3000 a) (hb : Sm 3000 b) : Ct w 180 2 ([(A, ratObj a ta ua ca), (B, ratObj b tb ub cb)] ++ news) [.ref A, .ref B, .int (-1) tw] (RatBack ([(A, ratObj a ta ua ca), (B, ratObj b tb ub cb)] ++ news) (a - b)) := by
  have h := c_sum w news A B a b ta ua tb ub ca cb (-1) tw ha hb (by decide)
  rw [way_neg] at h
  exact h
theorem c_rest (w : World) (news : List (Addr × Obj)) (A B : Addr) (b : Rat) (ta ua tb ub : Tok) (ca cb : Nat) (tw : Tok) (hb : Sm 3000 b) : Ct w 180 2 ([(A, tup2 (.int 1 ta) (.int 1 ua) ca), (B, ratObj b tb ub cb)] ++ news) [.ref A, .ref B, .int (-1) tw] (RatBack ([(A, tup2 (.int 1 ta) (.int 1 ua) ca), (B, ratObj b tb ub cb)] ++ news) (1 - b)) :=
  c_sum_m w news A B 1 b ta ua tb ub ca cb tw (sm_one.le (by decide)) hb
theorem c_product_half (w : World) (news : List (Addr × Obj)) (A B : Addr) (a : Rat) (ta ua tb ub : Tok) (ca cb : Nat) (ha : Sm 3000 a) : Ct w 187 2 ([(A, ratObj a ta ua ca), (B, tup2 (.int 1 tb) (.int 2 ub) cb)] ++ news) [.ref A, .ref B] (RatBack ([(A, ratObj a ta ua ca), (B, tup2 (.int 1 tb) (.int 2 ub) cb)] ++ news) (a * half)) := by
  have h := c_product w news A B a half ta ua tb ub ca cb ha (sm_half.le (by decide))
  unfold ratObj at h ⊢
  rw [half_num, half_den] at h
  exact h
local macro_rules | `(tactic| k_room) => `(tactic| ktr_room)
local macro_rules | `(tactic| bits_by_make) => `(tactic| first | exact sm_num (by with_reducible assumption) | exact sm_den (by with_reducible assumption) | with_reducible assumption)
local macro_rules | `(tactic| bits_by_make) => `(tactic| first | with_reducible assumption | ((with_reducible apply sm_addw) <;> bits_by_make) | ((with_reducible apply sm_add) <;> bits_by_make) | ((with_reducible apply sm_sub) <;> bits_by_make) | ((with_reducible apply sm_mul) <;> bits_by_make) | exact sm_one | exact sm_half)
local macro_rules | `(tactic| walk_at "call ref") => `(tactic| k_extra "own call")
theorem rows4 : True := by
  k_with_none
  k_with "own call" => (k_here; (with_reducible show wpAny _ _ (call (Value.ref 103) _) _ _ _); k_dflt (refine' use_pair (c_moved _ _ _ _ _ _ _ _ _ _ _ _ _ _ _ _ _ _ _ _ _ _ _ _ _ _ ?s0 ?s1 ?s2 ?s3) ?km ?k1 ?k2 ?k3 ?k4 ?k5 ?kK ?kd ?ku ?_; (case k1 => k_asm); (case k2 => k_asm); (case k3 => k_in); (case k4 => k_asm); (case k5 => k_asm); (case kK => first | exact rfl | assumption); (case km => (repeat' (first | exact List.forall_mem_nil _ | (refine List.forall_mem_cons.mpr (And.intro ?_ ?_)) | k_mem))); (case kd => first | (refine' rm1 ?rh ?re; (case rh => assumption); (case re => exact rfl)) | (refine' rm2 ?rh ?re; (case rh => assumption); (case re => exact rfl)) | (refine' rm3 ?rh ?re; (case rh => assumption); (case re => exact rfl)) | ktr_room); (case ku => first | (refine' un1 ?rh ?re; (case rh => assumption); (case re => exact rfl)) | (refine' un2 ?rh ?re; (case rh => assumption); (case re => exact rfl)) | (refine' un3 ?rh ?re; (case rh => assumption); (case re => exact rfl)) | ktr_units); (case s0 => first | assumption | (refine' Sm.le ?sh ?sk; (case sh => bits_by_make); (case sk => decide))); (case s1 => first | assumption | (refine' Sm.le ?sh ?sk; (case sh => bits_by_make); (case sk => decide))); (case s2 => first | assumption | (refine' Sm.le ?sh ?sk; (case sh => bits_by_make); (case sk => decide))); (case s3 => first | assumption | (refine' Sm.le ?sh ?sk; (case sh => bits_by_make); (case sk => decide))); intro P9 D9 E9 t9 u9 c9 t8 u8 c8 c7 h9 tk9 F9 N9 hl9 hl8 hl7; (try simp only [AllLt, and_true] at hl9 hl8 hl7); (try dsimp only); (try k_sweep); (try k_fold)))
  k_with "own call" => (k_here; (with_reducible show wpAny _ _ (call (Value.ref 110) _) _ _ _); k_dflt (refine' use_pair (c_between _ _ _ _ _ _ _ _ _ _ _ _ _ _ _ _ _ _ _ _ _ _ _ _ _ _ ?s0 ?s1 ?s2 ?s3) ?km ?k1 ?k2 ?k3 ?k4 ?k5 ?kK ?kd ?ku ?_; (case k1 => k_asm); (case k2 => k_asm); (case k3 => k_in); (case k4 => k_asm); (case k5 => k_asm); (case kK => first | exact rfl | assumption); (case km => (repeat' (first | exact List.forall_mem_nil _ | (refine List.forall_mem_cons.mpr (And.intro ?_ ?_)) | k_mem))); (case kd => first | (refine' rm1 ?rh ?re; (case rh => assumption); (case re => exact rfl)) | (refine' rm2 ?rh ?re; (case rh => assumption); (case re => exact rfl)) | (refine' rm3 ?rh ?re; (case rh => assumption); (case re => exact rfl)) | ktr_room); (case ku => first | (refine' un1 ?rh ?re; (case rh => assumption); (case re => exact rfl)) | (refine' un2 ?rh ?re; (case rh => assumption); (case re => exact rfl)) | (refine' un3 ?rh ?re; (case rh => assumption); (case re => exact rfl)) | ktr_units); (case s0 => first | assumption | (refine' Sm.le ?sh ?sk; (case sh => bits_by_make); (case sk => decide))); (case s1 => first | assumption | (refine' Sm.le ?sh ?sk; (case sh => bits_by_make); (case sk => decide))); (case s2 => first | assumption | (refine' Sm.le ?sh ?sk; (case sh => bits_by_make); (case sk => decide))); (case s3 => first | assumption | (refine' Sm.le ?sh ?sk; (case sh => bits_by_make); (case sk => decide))); intro P9 D9 E9 t9 u9 c9 t8 u8 c8 c7 h9 tk9 F9 N9 hl9 hl8 hl7; (try simp only [AllLt, and_true] at hl9 hl8 hl7); (try dsimp only); (try k_sweep); (try k_fold)))
  k_with "own call" => (k_here; (with_reducible show wpAny _ _ (call (Value.ref 117) _) _ _ _); k_dflt (refine' use_pair (c_scaled _ _ _ _ _ _ _ _ _ _ _ _ _ _ _ _ _ _ _ ?s0 ?s1 ?s2) ?km ?k1 ?k2 ?k3 ?k4 ?k5 ?kK ?kd ?ku ?_; (case k1 => k_asm); (case k2 => k_asm); (case k3 => k_in); (case k4 => k_asm); (case k5 => k_asm); (case kK => first | exact rfl | assumption); (case km => (repeat' (first | exact List.forall_mem_nil _ | (refine List.forall_mem_cons.mpr (And.intro ?_ ?_)) | k_mem))); (case kd => first | (refine' rm1 ?rh ?re; (case rh => assumption); (case re => exact rfl)) | (refine' rm2 ?rh ?re; (case rh => assumption); (case re => exact rfl)) | (refine' rm3 ?rh ?re; (case rh => assumption); (case re => exact rfl)) | ktr_room); (case ku => first | (refine' un1 ?rh ?re; (case rh => assumption); (case re => exact rfl)) | (refine' un2 ?rh ?re; (case rh => assumption); (case re => exact rfl)) | (refine' un3 ?rh ?re; (case rh => assumption); (case re => exact rfl)) | ktr_units); (case s0 => first | assumption | (refine' Sm.le ?sh ?sk; (case sh => bits_by_make); (case sk => decide))); (case s1 => first | assumption | (refine' Sm.le ?sh ?sk; (case sh => bits_by_make); (case sk => decide))); (case s2 => first | assumption | (refine' Sm.le ?sh ?sk; (case sh => bits_by_make); (case sk => decide))); intro P9 D9 E9 t9 u9 c9 t8 u8 c8 c7 h9 tk9 F9 N9 hl9 hl8 hl7; (try simp only [AllLt, and_true] at hl9 hl8 hl7); (try dsimp only); (try k_sweep); (try k_fold)))
  k_with "own call" => (k_here; (with_reducible show wpAny _ _ (call (Value.ref 131) _) _ _ _); k_dflt (refine' use_pair (c_along_half _ _ _ _ _ _ _ _ _ _ _ _ _ _ _ _ _ _ _ _ _ _ _ _ _ _ _ _ _ _ ?s0 ?s1 ?s2 ?s3) ?km ?k1 ?k2 ?k3 ?k4 ?k5 ?kK ?kd ?ku ?_; (case k1 => k_asm); (case k2 => k_asm); (case k3 => k_in); (case k4 => k_asm); (case k5 => k_asm); (case kK => first | exact rfl | assumption); (case km => (repeat' (first | exact List.forall_mem_nil _ | (refine List.forall_mem_cons.mpr (And.intro ?_ ?_)) | k_mem))); (case kd => first | (refine' rm1 ?rh ?re; (case rh => assumption); (case re => exact rfl)) | (refine' rm2 ?rh ?re; (case rh => assumption); (case re => exact rfl)) | (refine' rm3 ?rh ?re; (case rh => assumption); (case re => exact rfl)) | ktr_room); (case ku => first | (refine' un1 ?rh ?re; (case rh => assumption); (case re => exact rfl)) | (refine' un2 ?rh ?re; (case rh => assumption); (case re => exact rfl)) | (refine' un3 ?rh ?re; (case rh => assumption); (case re => exact rfl)) | ktr_units); (case s0 => first | assumption | (refine' Sm.le ?sh ?sk; (case sh => bits_by_make); (case sk => decide))); (case s1 => first | assumption | (refine' Sm.le ?sh ?sk; (case sh => bits_by_make); (case sk => decide))); (case s2 => first | assumption | (refine' Sm.le ?sh ?sk; (case sh => bits_by_make); (case sk => decide))); (case s3 => first | assumption | (refine' Sm.le ?sh ?sk; (case sh => bits_by_make); (case sk => decide))); intro P9 D9 E9 t9 u9 c9 t8 u8 c8 c7 h9 tk9 F9 N9 hl9 hl8 hl7; (try simp only [AllLt, and_true] at hl9 hl8 hl7); (try dsimp only); (try k_sweep); (try k_fold)))
  exact True.intro
set_option maxRecDepth 100000 in
set_option maxHeartbeats 8000000 in
theorem c_along0 (w : World) (news : List (Addr × Obj)) (P P1 P2 : Addr) (p1 p2 : Rat) (tp1 up1 tp2 up2 : Tok) (cp cp1 cp2 : Nat) (R R1 R2 : Addr) (q1 q2 : Rat) (tq1 uq1 tq2 uq2 : Tok) (cq cq1 cq2 : Nat) (F : Addr) (f : Rat) (tf uf : Tok) (cf : Nat) (hp1 : Sm 64 p1) (hp2 : Sm 64 p2) (hq1 : Sm 64 q1) (hq2 : Sm 64 q2) (hf : Sm 64 f) : Ct w 131 5 ([(P, tup2 (.ref P1) (.ref P2) cp), (P1, ratObj p1 tp1 up1 cp1), (P2, ratObj p2 tp2 up2 cp2), (R, tup2 (.ref R1) (.ref R2) cq), (R1, ratObj q1 tq1 uq1 cq1), (R2, ratObj q2 tq2 uq2 cq2), (F, ratObj f tf uf cf)] ++ news) [.ref P, .ref R, .ref F] (PairBack ([(P, tup2 (.ref P1) (.ref P2) cp), (P1, ratObj p1 tp1 up1 cp1), (P2, ratObj p2 tp2 up2 cp2), (R, tup2 (.ref R1) (.ref R2) cq), (R1, ratObj q1 tq1 uq1 cq1), (R2, ratObj q2 tq2 uq2 cq2), (F, ratObj f tf uf cf)] ++ news) (p1 + (q1 - p1) * f) (p2 + (q2 - p2) * f)) := by
  w_on
  unfold Ct
  intro mean mg mb dp un gd cn cs a9 ccd cl outer A₀ base h₀ L m s Q E B9 F9 X9 N9 T9 hk9 hdp hun hret
  simp only [List.cons_append, List.nil_append] at N9 hret
  refine wpAny_call ?_
  k_dflt (refine' code_def ?k1 ?k2 ?k3 ?k4 ?k5 ?kA ?kF ?kK ?k6 ?k7 ?k8 ?k9 ?kB ?_ ?c2 ?c3 ?c4 ?c5; (case kA => exact rfl); (case kF => exact rfl); (case kK => assumption); (case k1 => k_asm); (case k2 => k_asm); (case k3 => k_asm); (case k4 => k_asm); (case k5 => k_asm); (case k6 => k_is); (case k7 => k_is); (case k8 => ktr_room); (case k9 => first | exact BindsTo.of_eq rfl | exact binds_K (by k_in) rfl (by k_is) rfl rfl rfl); (case c5 => decide); (case kB => exact locs rfl); (case c2 => exact rfl); (case c3 => exact rfl); (case c4 => exact rfl); k_whole; intro g' L' h' FG' F' N' B' X' T'; (try dsimp only); (try k_lift B'); (try k_fold))
  w_strict (k_steps)
  try any_goals (exfalso; omega)
  refine' pair_end hret ?kF ?kN ?km ?km1 ?km2 ?ks ?kl ?kl1 ?kl2
  case kF => k_asm
  case kN => k_asm
  case km => k_mem
  case km1 => k_mem
  case km2 => k_mem
  case ks => kcj_all
  case kl => first | kcu_lt | ((try simp only [AllLt, and_true]); (repeat' (rename (_ ∧ _) => l9; obtain ⟨l9a, l9b⟩ := l9)); (repeat' (refine And.intro ?_ ?_)) <;> first | trivial | assumption | omega)
  case kl1 => first | kcu_lt | ((try simp only [AllLt, and_true]); (repeat' (rename (_ ∧ _) => l9; obtain ⟨l9a, l9b⟩ := l9)); (repeat' (refine And.intro ?_ ?_)) <;> first | trivial | assumption | omega)
  case kl2 => first | kcu_lt | ((try simp only [AllLt, and_true]); (repeat' (rename (_ ∧ _) => l9; obtain ⟨l9a, l9b⟩ := l9)); (repeat' (refine And.intro ?_ ?_)) <;> first | trivial | assumption | omega)
theorem c_along (w : World) (news : List (Addr × Obj)) (P P1 P2 : Addr) (p1 p2 : Rat) (tp1 up1 tp2 up2 : Tok) (cp cp1 cp2 : Nat) (R R1 R2 : Addr) (q1 q2 : Rat) (tq1 uq1 tq2 uq2 : Tok) (cq cq1 cq2 : Nat) (F : Addr) (f : Rat) (tf uf : Tok) (cf : Nat) (hp1 : Sm 64 p1) (hp2 : Sm 64 p2) (hq1 : Sm 64 q1) (hq2 : Sm 64 q2) (hf : Sm 64 f) : Ct w 131 5 ([(P, tup2 (.ref P1) (.ref P2) cp), (P1, ratObj p1 tp1 up1 cp1), (P2, ratObj p2 tp2 up2 cp2), (R, tup2 (.ref R1) (.ref R2) cq), (R1, ratObj q1 tq1 uq1 cq1), (R2, ratObj q2 tq2 uq2 cq2), (F, ratObj f tf uf cf)] ++ news) [.ref P, .ref R, .ref F] (PairBack ([(P, tup2 (.ref P1) (.ref P2) cp), (P1, ratObj p1 tp1 up1 cp1), (P2, ratObj p2 tp2 up2 cp2), (R, tup2 (.ref R1) (.ref R2) cq), (R1, ratObj q1 tq1 uq1 cq1), (R2, ratObj q2 tq2 uq2 cq2), (F, ratObj f tf uf cf)] ++ news) (p1 * (1 - f) + q1 * f) (p2 * (1 - f) + q2 * f)) := by
  have h := c_along0 w news P P1 P2 p1 p2 tp1 up1 tp2 up2 cp cp1 cp2 R R1 R2 q1 q2 tq1 uq1 tq2 uq2 cq cq1 cq2 F f tf uf cf hp1 hp2 hq1 hq2 hf
  rw [along_eq, along_eq] at h
  exact h
theorem c_along_half (w : World) (news : List (Addr × Obj)) (P P1 P2 : Addr) (p1 p2 : Rat) (tp1 up1 tp2 up2 : Tok) (cp cp1 cp2 : Nat) (R R1 R2 : Addr) (q1 q2 : Rat) (tq1 uq1 tq2 uq2 : Tok) (cq cq1 cq2 : Nat) (F : Addr) (tf uf : Tok) (cf : Nat) (hp1 : Sm 64 p1) (hp2 : Sm 64 p2) (hq1 : Sm 64 q1) (hq2 : Sm 64 q2) : Ct w 131 5 ([(P, tup2 (.ref P1) (.ref P2) cp), (P1, ratObj p1 tp1 up1 cp1), (P2, ratObj p2 tp2 up2 cp2), (R, tup2 (.ref R1) (.ref R2) cq), (R1, ratObj q1 tq1 uq1 cq1), (R2, ratObj q2 tq2 uq2 cq2), (F, tup2 (.int 1 tf) (.int 2 uf) cf)] ++ news) [.ref P, .ref R, .ref F] (PairBack ([(P, tup2 (.ref P1) (.ref P2) cp), (P1, ratObj p1 tp1 up1 cp1), (P2, ratObj p2 tp2 up2 cp2), (R, tup2 (.ref R1) (.ref R2) cq), (R1, ratObj q1 tq1 uq1 cq1), (R2, ratObj q2 tq2 uq2 cq2), (F, tup2 (.int 1 tf) (.int 2 uf) cf)] ++ news) ((p1 + q1) * half) ((p2 + q2) * half)) := by
  have h := c_along w news P P1 P2 p1 p2 tp1 up1 tp2 up2 cp cp1 cp2 R R1 R2 q1 q2 tq1 uq1 tq2 uq2 cq cq1 cq2 F half tf uf cf hp1 hp2 hq1 hq2 (sm_half.le (by decide))
  rw [middle_eq, middle_eq] at h
  unfold ratObj at h ⊢
  rw [half_num, half_den] at h
  exact h
set_option maxRecDepth 100000 in
set_option maxHeartbeats 8000000 in
theorem c_middle (w : World) (news : List (Addr × Obj)) (P P1 P2 : Addr) (p1 p2 : Rat) (tp1 up1 tp2 up2 : Tok) (cp cp1 cp2 : Nat) (R R1 R2 : Addr) (q1 q2 : Rat) (tq1 uq1 tq2 uq2 : Tok) (cq cq1 cq2 : Nat) (hp1 : Sm 64 p1) (hp2 : Sm 64 p2) (hq1 : Sm 64 q1) (hq2 : Sm 64 q2) : Ct w 138 6 ([(P, tup2 (.ref P1) (.ref P2) cp), (P1, ratObj p1 tp1 up1 cp1), (P2, ratObj p2 tp2 up2 cp2), (R, tup2 (.ref R1) (.ref R2) cq), (R1, ratObj q1 tq1 uq1 cq1), (R2, ratObj q2 tq2 uq2 cq2)] ++ news) [.ref P, .ref R] (PairBack ([(P, tup2 (.ref P1) (.ref P2) cp), (P1, ratObj p1 tp1 up1 cp1), (P2, ratObj p2 tp2 up2 cp2), (R, tup2 (.ref R1) (.ref R2) cq), (R1, ratObj q1 tq1 uq1 cq1), (R2, ratObj q2 tq2 uq2 cq2)] ++ news) ((p1 + q1) * half) ((p2 + q2) * half)) := by
  w_on
  unfold Ct
  intro mean mg mb dp un gd cn cs a9 ccd cl outer A₀ base h₀ L m s Q E B9 F9 X9 N9 T9 hk9 hdp hun hret
  simp only [List.cons_append, List.nil_append] at N9 hret
  refine wpAny_call ?_
  k_dflt (refine' code_def ?k1 ?k2 ?k3 ?k4 ?k5 ?kA ?kF ?kK ?k6 ?k7 ?k8 ?k9 ?kB ?_ ?c2 ?c3 ?c4 ?c5; (case kA => exact rfl); (case kF => exact rfl); (case kK => assumption); (case k1 => k_asm); (case k2 => k_asm); (case k3 => k_asm); (case k4 => k_asm); (case k5 => k_asm); (case k6 => k_is); (case k7 => k_is); (case k8 => ktr_room); (case k9 => first | exact BindsTo.of_eq rfl | exact binds_K (by k_in) rfl (by k_is) rfl rfl rfl); (case c5 => decide); (case kB => exact locs rfl); (case c2 => exact rfl); (case c3 => exact rfl); (case c4 => exact rfl); k_whole; intro g' L' h' FG' F' N' B' X' T'; (try dsimp only); (try k_lift B'); (try k_fold))
  w_strict (k_steps)
  try any_goals (exfalso; omega)
  refine' pair_end hret ?kF ?kN ?km ?km1 ?km2 ?ks ?kl ?kl1 ?kl2
  case kF => k_asm
  case kN => k_asm
  case km => k_mem
  case km1 => k_mem
  case km2 => k_mem
  case ks => kcj_all
  case kl => first | kcu_lt | ((try simp only [AllLt, and_true]); (repeat' (rename (_ ∧ _) => l9; obtain ⟨l9a, l9b⟩ := l9)); (repeat' (refine And.intro ?_ ?_)) <;> first | trivial | assumption | omega)
  case kl1 => first | kcu_lt | ((try simp only [AllLt, and_true]); (repeat' (rename (_ ∧ _) => l9; obtain ⟨l9a, l9b⟩ := l9)); (repeat' (refine And.intro ?_ ?_)) <;> first | trivial | assumption | omega)
  case kl2 => first | kcu_lt | ((try simp only [AllLt, and_true]); (repeat' (rename (_ ∧ _) => l9; obtain ⟨l9a, l9b⟩ := l9)); (repeat' (refine And.intro ?_ ?_)) <;> first | trivial | assumption | omega)
end Mine
namespace Mine
local macro_rules | `(tactic| k_room) => `(tactic| ktr_room)
local macro_rules | `(tactic| bits_by_make) => `(tactic| first | exact sm_num (by with_reducible assumption) | exact sm_den (by with_reducible assumption) | with_reducible assumption)
local macro_rules | `(tactic| bits_by_make) => `(tactic| first | with_reducible assumption | ((with_reducible apply sm_addw) <;> bits_by_make) | ((with_reducible apply sm_add) <;> bits_by_make) | ((with_reducible apply sm_sub) <;> bits_by_make) | ((with_reducible apply sm_mul) <;> bits_by_make) | exact sm_one | exact sm_half)

local macro_rules | `(tactic| k_all) => `(tactic| assumption)
theorem top_log2 {top : Int} (h0 : 0 < top) (h1 : top < 2199023255552) : top.natAbs.log2 < 9000 := by
  have h3 : top.natAbs.log2 < 41 := (Nat.log2_lt (by omega)).mpr (by have : (2 : Nat) ^ 41 = 2199023255552 := by decide
                                                                     omega)
  omega
/-- the source, drawn from once -/
def TakeBack (S : Addr) (top : Int) (news : List (Addr × Obj)) (r : Value) (nw : List (Addr × Obj)) : Prop :=
  ∃ (x : Int) (t : Tok) (a : Int) (ta : Tok) (b : Int) (tb : Tok) (n : Nat), r = .int x t ∧ 0 ≤ x ∧ x < top ∧ 0 ≤ b ∧ b < 2147483648 ∧ nw = (S, listOf #[.int a ta, .int b tb] n) :: news
set_option maxRecDepth 100000 in
set_option maxHeartbeats 8000000 in
theorem c_take (w : World) (news : List (Addr × Obj)) (S : Addr) (a b : Int) (ta tb : Tok) (n : Nat) (top : Int) (tt : Tok) (hS : ∀ p ∈ news, p.1 ≠ S) (hb0 : 0 ≤ b) (hb1 : b < 2147483648) (ht0 : 0 < top) (ht1 : top < 2199023255552) :
    Ct w 166 1 ([(S, listOf #[.int a ta, .int b tb] n)] ++ news) [.ref S, .int top tt] (TakeBack S top news) := by
  w_on
  k_with_none
  unfold Ct
  intro mean mg mb dp un gd cn cs a9 ccd cl outer A₀ base h₀ L m s Q E B9 F9 X9 N9 T9 hk9 hdp hun hret
  simp only [List.cons_append, List.nil_append] at N9 hret
  refine wpAny_call ?_
  k_dflt (refine' code_def ?k1 ?k2 ?k3 ?k4 ?k5 ?kA ?kF ?kK ?k6 ?k7 ?k8 ?k9 ?kB ?_ ?c2 ?c3 ?c4 ?c5; (case kA => exact rfl); (case kF => exact rfl); (case kK => assumption); (case k1 => k_asm); (case k2 => k_asm); (case k3 => k_asm); (case k4 => k_asm); (case k5 => k_asm); (case k6 => k_is); (case k7 => k_is); (case k8 => ktr_room); (case k9 => first | exact BindsTo.of_eq rfl | exact binds_K (by k_in) rfl (by k_is) rfl rfl rfl); (case c5 => decide); (case kB => exact locs rfl); (case c2 => exact rfl); (case c3 => exact rfl); (case c4 => exact rfl); k_whole; intro g' L' h' FG' F' N' B' X' T'; (try dsimp only); (try k_lift B'); (try k_fold))
  have htl : top.natAbs.log2 < 9000 := top_log2 ht0 ht1
  have ht9 : top ≠ 0 := by omega
  have hz0 : -18446744073709551616 < (b * 39373 + 7).fmod 2147483647 := by have := Int.fmod_nonneg_of_pos (b * 39373 + 7) (b := 2147483647) (by decide); omega
  have hz1 : (b * 39373 + 7).fmod 2147483647 < 18446744073709551616 := by have := Int.fmod_lt_of_pos (b * 39373 + 7) (b := 2147483647) (by decide); omega
  have hlt : (b * 39373 + 7).fmod 2147483647 < 2147483648 := Int.lt_trans (Int.fmod_lt_of_pos (b * 39373 + 7) (b := 2147483647) (by decide)) (by decide)
  k_with "binaryOp FloorDiv int int" => refine floordiv_int ht9 ?_ (Or.inl (PyProof.noPylong_of_log2 htl))
  k_with "binaryOp Mult int int" => refine mul_int ?_ (PySem.IntMulOk.of_left (PySem.intBits_le_64 hz0 hz1))
  w_strict (k_steps)
  all_goals (refine' hret _ _ _ _ ?kF ?kN ?kP; (case kF => k_asm); (case kN => k_asm); (case kP => exact ⟨_, _, _, _, _, _, _, rfl, Int.fmod_nonneg_of_pos _ ht0, Int.fmod_lt_of_pos _ ht0, by first | exact hb0 | exact Int.fmod_nonneg_of_pos _ (by decide), by first | exact hb1 | exact hlt, rfl⟩))
end Mine
namespace Mine
local macro_rules | `(tactic| k_room) => `(tactic| ktr_room)
local macro_rules | `(tactic| bits_by_make) => `(tactic| first | exact sm_num (by with_reducible assumption) | exact sm_den (by with_reducible assumption) | with_reducible assumption)
local macro_rules | `(tactic| bits_by_make) => `(tactic| first | with_reducible assumption | ((with_reducible apply sm_addw) <;> bits_by_make) | ((with_reducible apply sm_add) <;> bits_by_make) | ((with_reducible apply sm_sub) <;> bits_by_make) | ((with_reducible apply sm_mul) <;> bits_by_make) | exact sm_one | exact sm_half)

local macro_rules | `(tactic| k_all) => `(tactic| assumption)
/-- the source drawn from, and what was made, above all that stood -/
def SrcBack (S : Addr) (R : Value → List (Addr × Obj) → Obj → Prop) (news : List (Addr × Obj)) (r : Value) (nw : List (Addr × Obj)) : Prop :=
  ∃ (front : List (Addr × Obj)) (o' : Obj), R r front o' ∧ nw = front ++ (S, o') :: news ∧ ∀ p ∈ front, S < p.1 ∧ AllLt p.1 news
def TakeR (top : Int) (r : Value) (front : List (Addr × Obj)) (o' : Obj) : Prop :=
  ∃ (x : Int) (t : Tok) (a : Int) (ta : Tok) (b : Int) (tb : Tok) (n : Nat), r = .int x t ∧ front = [] ∧ o' = listOf #[.int a ta, .int b tb] n ∧ 0 ≤ x ∧ x < top ∧ 0 ≤ b ∧ b < 2147483648
def NumR (r : Value) (front : List (Addr × Obj)) (o' : Obj) : Prop :=
  ∃ (D : Addr) (q : Rat) (t u : Tok) (c : Nat) (a : Int) (ta : Tok) (b : Int) (tb : Tok) (n : Nat), r = .ref D ∧ front = [(D, ratObj q t u c)] ∧ o' = listOf #[.int a ta, .int b tb] n ∧ Sm 64 q ∧ 0 ≤ b ∧ b < 2147483648
def PairR (r : Value) (front : List (Addr × Obj)) (o' : Obj) : Prop :=
  ∃ (P D1 D2 : Addr) (q1 q2 : Rat) (t1 u1 t2 u2 : Tok) (c c1 c2 : Nat) (a : Int) (ta : Tok) (b : Int) (tb : Tok) (n : Nat), r = .ref P ∧ front = [(P, tup2 (.ref D1) (.ref D2) c), (D1, ratObj q1 t1 u1 c1), (D2, ratObj q2 t2 u2 c2)] ∧ o' = listOf #[.int a ta, .int b tb] n ∧ Sm 64 q1 ∧ Sm 64 q2 ∧ 0 ≤ b ∧ b < 2147483648
theorem c_takeS (w : World) (news : List (Addr × Obj)) (S : Addr) (a b : Int) (ta tb : Tok) (n : Nat) (top : Int) (tt : Tok) (hS : ∀ p ∈ news, p.1 ≠ S) (hb0 : 0 ≤ b) (hb1 : b < 2147483648) (ht0 : 0 < top) (ht1 : top < 2199023255552) :
    Ct w 166 1 ([(S, listOf #[.int a ta, .int b tb] n)] ++ news) [.ref S, .int top tt] (SrcBack S (TakeR top) news) := by
  have C := c_take w news S a b ta tb n top tt hS hb0 hb1 ht0 ht1
  unfold Ct at C ⊢
  intro mean mg mb dp un gd cn cs a9 ccd cl outer A₀ base h₀ L m s Q E B F X N T hk h1 h2 hret
  refine C mean mg mb dp un gd cn cs a9 ccd cl outer A₀ base h₀ L m s Q E B F X N T hk h1 h2 ?_
  rintro r nw h' tk' F' N' ⟨x, t, a', ta', b', tb', n', rfl, hx0, hx1, hb0', hb1', rfl⟩
  exact hret _ _ h' tk' F' N' ⟨[], _, ⟨x, t, a', ta', b', tb', n', rfl, rfl, rfl, hx0, hx1, hb0', hb1'⟩, rfl, fun _ h => nomatch h⟩
section
variable {w : World} {f : Addr} {dep : Nat} {S : Addr} {o : Obj} {nwL : List (Addr × Obj)} {g : Obj → List (Addr × Obj)} {R : Value → List (Addr × Obj) → Obj → Prop} {vs : List Value} {mean : ExcName → Option Value} {mg mb : Str → Option Value} {dp un : Nat} {gd : Option (List Code)} {cn : Str} {cs : Scope} {a : Addr} {ccd : Value} {cl : List (Str × Addr)} {outer : List Env} {A₀ : Around} {base h₀ : Heap} {L : Addr} {m : Str → Option Value} {s : Shared} {Q E : Value → Shared → Prop}
theorem use_src (U : UpdF S o nwL g) (C : ∀ news, (∀ p ∈ news, p.1 ≠ S) → Ct w f dep ([(S, o)] ++ news) vs (SrcBack S R news)) (B : Below A₀ base outer h₀) (F : Fr h₀ L s.heap m) (X : (hd.heap_39 w.params).In h₀) (N : News h₀ L s.heap nwL) (T : Top topProg LO mean mg mb h₀) (hk : cs.kind = .function) (hd : dp + dep < recursionLimit) (hu : un + 8 * dep < cLine)
    (k : ∀ r front o' h' tk', Fr h₀ L h' m → News h₀ L h' (front ++ g o') → R r front o' → (∀ p ∈ front, AllLt p.1 nwL) → Q r { s with heap := h', toks := tk' }) :
    wpAny (model PySem.Challenge.rw_xm0691_01.row.prog w) (ktrTop dp un gd cn cs L a ccd cl outer) (call (.ref f) vs) Q E s := by
  obtain ⟨pre, post, hl, hg, h1, h2⟩ := U.split
  refine C (pre ++ post) (fun p hp => (List.mem_append.mp hp).elim (h1 p) (h2 p)) _ _ _ _ _ _ _ _ _ _ _ _ _ _ _ _ _ _ _ _ B F X (fun p hp => N p ?_) T hk hd hu ?_
  · rw [hl]
    simp only [List.mem_append, List.mem_cons, List.not_mem_nil, or_false] at hp ⊢
    rcases hp with hp | hp | hp
    · exact .inr (.inl hp)
    · exact .inl hp
    · exact .inr (.inr hp)
  · rintro r nw h' tk' F' N' ⟨front, o', hR, rfl, hlt⟩
    refine k r front o' h' tk' F' (fun p hp => N' p ?_) hR fun p hp => allLt_of fun q hq => ?_
    · rw [hg] at hp
      simp only [List.mem_append, List.mem_cons] at hp ⊢
      rcases hp with hp | hp | hp | hp
      · exact .inl hp
      · exact .inr (.inr (.inl hp))
      · exact .inr (.inl hp)
      · exact .inr (.inr (.inr hp))
    · rw [hl] at hq
      have h3 := hlt p hp
      simp only [List.mem_append, List.mem_cons] at hq
      rcases hq with hq | hq | hq
      · exact allLt_mem h3.2 q (List.mem_append.mpr (.inl hq))
      · rw [hq]; exact h3.1
      · exact allLt_mem h3.2 q (List.mem_append.mpr (.inr hq))
end
theorem num_end {h₀ : Heap} {L : Addr} {m : Str → Option Value} {S : Addr} {news : List (Addr × Obj)} {s : Shared} {Q : Value → Shared → Prop}
    (hret : ∀ r nw h' tk', Fr h₀ L h' m → News h₀ L h' nw → SrcBack S NumR news r nw → Q r { s with heap := h', toks := tk' })
    {h' : Heap} {tk' : Nat} {nw : List (Addr × Obj)} {D : Addr} {q : Rat} {t u : Tok} {c : Nat} {a b : Int} {ta tb : Tok} {n : Nat} (F : Fr h₀ L h' m) (N : News h₀ L h' nw) (hm : (D, ratObj q t u c) ∈ nw) (hm2 : (S, listOf #[.int a ta, .int b tb] n) ∈ nw) (hs : ∀ p ∈ news, p ∈ nw)
    (hl : AllLt D ((S, listOf #[.int a ta, .int b tb] n) :: news)) (hq : Sm 64 q) (hb0 : 0 ≤ b) (hb1 : b < 2147483648) : Q (.ref D) { s with heap := h', toks := tk' } := by
  refine hret _ ([(D, ratObj q t u c)] ++ (S, listOf #[.int a ta, .int b tb] n) :: news) _ _ F (fun p hp => ?_) ⟨_, _, ⟨D, q, t, u, c, a, ta, b, tb, n, rfl, rfl, rfl, hq, hb0, hb1⟩, rfl, fun p hp => ?_⟩
  · rcases List.mem_cons.mp hp with rfl | hp
    · exact N _ hm
    · rcases List.mem_cons.mp hp with rfl | hp
      · exact N _ hm2
      · exact N p (hs p hp)
  · rw [List.mem_singleton.mp hp]
    exact hl
theorem npair_end {h₀ : Heap} {L : Addr} {m : Str → Option Value} {S : Addr} {news : List (Addr × Obj)} {s : Shared} {Q : Value → Shared → Prop}
    (hret : ∀ r nw h' tk', Fr h₀ L h' m → News h₀ L h' nw → SrcBack S PairR news r nw → Q r { s with heap := h', toks := tk' })
    {h' : Heap} {tk' : Nat} {nw : List (Addr × Obj)} {P D1 D2 : Addr} {q1 q2 : Rat} {t1 u1 t2 u2 : Tok} {c c1 c2 : Nat} {a b : Int} {ta tb : Tok} {n : Nat} (F : Fr h₀ L h' m) (N : News h₀ L h' nw) (hm : (P, tup2 (.ref D1) (.ref D2) c) ∈ nw) (hm1 : (D1, ratObj q1 t1 u1 c1) ∈ nw) (hm2 : (D2, ratObj q2 t2 u2 c2) ∈ nw) (hm3 : (S, listOf #[.int a ta, .int b tb] n) ∈ nw) (hs : ∀ p ∈ news, p ∈ nw)
    (hl : AllLt P ((S, listOf #[.int a ta, .int b tb] n) :: news)) (hl1 : AllLt D1 ((S, listOf #[.int a ta, .int b tb] n) :: news)) (hl2 : AllLt D2 ((S, listOf #[.int a ta, .int b tb] n) :: news)) (hq1 : Sm 64 q1) (hq2 : Sm 64 q2) (hb0 : 0 ≤ b) (hb1 : b < 2147483648) : Q (.ref P) { s with heap := h', toks := tk' } := by
  refine hret _ ([(P, tup2 (.ref D1) (.ref D2) c), (D1, ratObj q1 t1 u1 c1), (D2, ratObj q2 t2 u2 c2)] ++ (S, listOf #[.int a ta, .int b tb] n) :: news) _ _ F (fun p hp => ?_) ⟨_, _, ⟨P, D1, D2, q1, q2, t1, u1, t2, u2, c, c1, c2, a, ta, b, tb, n, rfl, rfl, rfl, hq1, hq2, hb0, hb1⟩, rfl, fun p hp => ?_⟩
  · rcases List.mem_cons.mp hp with rfl | hp
    · exact N _ hm
    · rcases List.mem_cons.mp hp with rfl | hp
      · exact N _ hm1
      · rcases List.mem_cons.mp hp with rfl | hp
        · exact N _ hm2
        · rcases List.mem_cons.mp hp with rfl | hp
          · exact N _ hm3
          · exact N p (hs p hp)
  · simp only [List.mem_cons, List.not_mem_nil, or_false] at hp
    rcases hp with rfl | rfl | rfl
    · exact hl
    · exact hl1
    · exact hl2
theorem use_take {w : World} {S : Addr} {nwL : List (Addr × Obj)} {g : Obj → List (Addr × Obj)} {mean : ExcName → Option Value} {mg mb : Str → Option Value} {dp un : Nat} {gd : Option (List Code)} {cn : Str} {cs : Scope} {a9 : Addr} {ccd : Value} {cl : List (Str × Addr)} {outer : List Env} {A₀ : Around} {base h₀ : Heap} {L : Addr} {m : Str → Option Value} {s : Shared} {Q E : Value → Shared → Prop} {a b : Int} {ta tb : Tok} {n : Nat} {top : Int} {tt : Tok} (U : UpdF S (listOf #[.int a ta, .int b tb] n) nwL g) (hb0 : 0 ≤ b) (hb1 : b < 2147483648) (ht0 : 0 < top) (ht1 : top < 2199023255552) (B : Below A₀ base outer h₀) (F : Fr h₀ L s.heap m) (X : (hd.heap_39 w.params).In h₀) (N : News h₀ L s.heap nwL) (T : Top topProg LO mean mg mb h₀) (hk : cs.kind = .function) (hd : dp + 1 < recursionLimit) (hu : un + 8 * 1 < cLine)
    (k : ∀ r front o' h' tk', Fr h₀ L h' m → News h₀ L h' (front ++ g o') → TakeR top r front o' → (∀ p ∈ front, AllLt p.1 nwL) → Q r { s with heap := h', toks := tk' }) :
    wpAny (model PySem.Challenge.rw_xm0691_01.row.prog w) (ktrTop dp un gd cn cs L a9 ccd cl outer) (call (.ref 166) [.ref S, .int top tt]) Q E s :=
  use_src U (fun news hS => c_takeS w news S a b ta tb n top tt hS hb0 hb1 ht0 ht1) B F X N T hk hd hu k
local macro_rules | `(tactic| walk_at "call ref") => `(tactic| k_extra "own call")
theorem rows6 : True := by
  k_with_none
  k_with "own call" => (k_here; (with_reducible show wpAny _ _ (call (Value.ref 166) _) _ _ _); k_dflt (refine' use_take ?U ?s0 ?s1 ?s2 ?s3 ?k1 ?k2 ?k3 ?k4 ?k5 ?kK ?kd ?ku ?_; (case k1 => k_asm); (case k2 => k_asm); (case k3 => k_in); (case k4 => k_asm); (case U => k_updF); (case k5 => k_asm); (case kK => first | exact rfl | assumption); (case kd => first | (refine' rm1 ?rh ?re; (case rh => assumption); (case re => exact rfl)) | (refine' rm2 ?rh ?re; (case rh => assumption); (case re => exact rfl)) | (refine' rm3 ?rh ?re; (case rh => assumption); (case re => exact rfl)) | ktr_room); (case ku => first | (refine' un1 ?rh ?re; (case rh => assumption); (case re => exact rfl)) | (refine' un2 ?rh ?re; (case rh => assumption); (case re => exact rfl)) | (refine' un3 ?rh ?re; (case rh => assumption); (case re => exact rfl)) | ktr_units); (case s0 => first | assumption | omega); (case s1 => first | assumption | omega); (case s2 => first | decide | omega); (case s3 => first | decide | omega); intro r9 f9 o9 h9 tk9 F9 N9 R9 hl9; obtain ⟨x9, t9, a9, ta9, b9, tb9, n9, e9, e8, e7, hx0, hx1, hb0, hb1⟩ := R9; subst e9; subst e8; subst e7; (try simp only [Int.reduceToNat, Int.reducePow] at hx1); (try simp only [List.cons_append, List.nil_append, List.forall_mem_cons, List.not_mem_nil, false_implies, implies_true, and_true, AllLt] at hl9); (try simp only [List.cons_append, List.nil_append] at N9); (try dsimp only); (try k_sweep); (try k_fold)))
  k_with "own call" => (k_here; (with_reducible show wpAny _ _ (call (Value.ref 173) _) _ _ _); k_dflt (refine' use_rat (c_lowest _ _ _ _ _ _ ?s0 ?s1) ?km ?k1 ?k2 ?k3 ?k4 ?k5 ?kK ?kd ?ku ?_; (case k1 => k_asm); (case k2 => k_asm); (case k3 => k_in); (case k4 => k_asm); (case k5 => k_asm); (case kK => first | exact rfl | assumption); (case km => (repeat' (first | exact List.forall_mem_nil _ | (refine List.forall_mem_cons.mpr (And.intro ?_ ?_)) | k_mem))); (case kd => first | (refine' rm1 ?rh ?re; (case rh => assumption); (case re => exact rfl)) | (refine' rm2 ?rh ?re; (case rh => assumption); (case re => exact rfl)) | (refine' rm3 ?rh ?re; (case rh => assumption); (case re => exact rfl)) | ktr_room); (case ku => first | (refine' un1 ?rh ?re; (case rh => assumption); (case re => exact rfl)) | (refine' un2 ?rh ?re; (case rh => assumption); (case re => exact rfl)) | (refine' un3 ?rh ?re; (case rh => assumption); (case re => exact rfl)) | ktr_units); (case s0 => first | exact dens_pos _ _ | assumption | omega); (case s1 => first | exact dens_bits (by assumption) (by assumption) | assumption | exact intBits_le_8000 (by omega) (by omega)); intro D9 t9 u9 c9 h9 tk9 F9 N9 hl9; (try simp only [AllLt, and_true] at hl9); (try dsimp only); (try k_sweep); (try k_fold)))
  exact True.intro
set_option maxRecDepth 100000 in
set_option maxHeartbeats 8000000 in
theorem c_number (w : World) (news : List (Addr × Obj)) (S : Addr) (a b : Int) (ta tb : Tok) (n : Nat) (hS : ∀ p ∈ news, p.1 ≠ S) (hb0 : 0 ≤ b) (hb1 : b < 2147483648) :
    Ct w 194 2 ([(S, listOf #[.int a ta, .int b tb] n)] ++ news) [.ref S] (SrcBack S NumR news) := by
  w_on
  unfold Ct
  intro mean mg mb dp un gd cn cs a9 ccd cl outer A₀ base h₀ L m s Q E B9 F9 X9 N9 T9 hk9 hdp hun hret
  simp only [List.cons_append, List.nil_append] at N9 hret
  refine wpAny_call ?_
  k_dflt (refine' code_def ?k1 ?k2 ?k3 ?k4 ?k5 ?kA ?kF ?kK ?k6 ?k7 ?k8 ?k9 ?kB ?_ ?c2 ?c3 ?c4 ?c5; (case kA => exact rfl); (case kF => exact rfl); (case kK => assumption); (case k1 => k_asm); (case k2 => k_asm); (case k3 => k_asm); (case k4 => k_asm); (case k5 => k_asm); (case k6 => k_is); (case k7 => k_is); (case k8 => ktr_room); (case k9 => first | exact BindsTo.of_eq rfl | exact binds_K (by k_in) rfl (by k_is) rfl rfl rfl); (case c5 => decide); (case kB => exact locs rfl); (case c2 => exact rfl); (case c3 => exact rfl); (case c4 => exact rfl); k_whole; intro g' L' h' FG' F' N' B' X' T'; (try dsimp only); (try k_lift B'); (try k_fold))
  w_strict (k_steps)
  try any_goals (exfalso; omega)
  all_goals (refine' num_end hret ?kF ?kN ?km ?km2 ?ks ?kl ?kq ?kb0 ?kb1; (case kF => k_asm); (case kN => k_asm); (case km => k_mem); (case km2 => k_mem); (case ks => kcj_all); (case kb0 => first | assumption | omega); (case kb1 => first | assumption | omega); (case kl => first | kcu_lt | ((try simp only [AllLt, and_true]); (repeat' (rename (_ ∧ _) => l9; obtain ⟨l9a, l9b⟩ := l9)); (repeat' (refine And.intro ?_ ?_)) <;> first | trivial | assumption | omega)); (case kq => ((try simp only [Int.reduceToNat, Int.reducePow]); exact sm_fr (by omega) (PySem.intBits_le_64 (by omega) (by omega)) (PySem.intBits_le_64 (by omega) (by omega)))))
end Mine
namespace Mine
local macro_rules | `(tactic| k_room) => `(tactic| ktr_room)
local macro_rules | `(tactic| bits_by_make) => `(tactic| first | exact sm_num (by with_reducible assumption) | exact sm_den (by with_reducible assumption) | with_reducible assumption)
local macro_rules | `(tactic| bits_by_make) => `(tactic| first | with_reducible assumption | ((with_reducible apply sm_addw) <;> bits_by_make) | ((with_reducible apply sm_add) <;> bits_by_make) | ((with_reducible apply sm_sub) <;> bits_by_make) | ((with_reducible apply sm_mul) <;> bits_by_make) | exact sm_one | exact sm_half)

local macro_rules | `(tactic| k_all) => `(tactic| assumption)
theorem use_number {w : World} {S : Addr} {nwL : List (Addr × Obj)} {g : Obj → List (Addr × Obj)} {mean : ExcName → Option Value} {mg mb : Str → Option Value} {dp un : Nat} {gd : Option (List Code)} {cn : Str} {cs : Scope} {a9 : Addr} {ccd : Value} {cl : List (Str × Addr)} {outer : List Env} {A₀ : Around} {base h₀ : Heap} {L : Addr} {m : Str → Option Value} {s : Shared} {Q E : Value → Shared → Prop} {a b : Int} {ta tb : Tok} {n : Nat} (U : UpdF S (listOf #[.int a ta, .int b tb] n) nwL g) (hb0 : 0 ≤ b) (hb1 : b < 2147483648) (B : Below A₀ base outer h₀) (F : Fr h₀ L s.heap m) (X : (hd.heap_39 w.params).In h₀) (N : News h₀ L s.heap nwL) (T : Top topProg LO mean mg mb h₀) (hk : cs.kind = .function) (hd : dp + 2 < recursionLimit) (hu : un + 8 * 2 < cLine)
    (k : ∀ r front o' h' tk', Fr h₀ L h' m → News h₀ L h' (front ++ g o') → NumR r front o' → (∀ p ∈ front, AllLt p.1 nwL) → Q r { s with heap := h', toks := tk' }) :
    wpAny (model PySem.Challenge.rw_xm0691_01.row.prog w) (ktrTop dp un gd cn cs L a9 ccd cl outer) (call (.ref 194) [.ref S]) Q E s :=
  use_src U (fun news hS => c_number w news S a b ta tb n hS hb0 hb1) B F X N T hk hd hu k
local macro_rules | `(tactic| walk_at "call ref") => `(tactic| k_extra "own call")
theorem rows7 : True := by
  k_with_none
  k_with "own call" => (k_here; (with_reducible show wpAny _ _ (call (Value.ref 194) _) _ _ _); k_dflt (refine' use_number ?U ?s0 ?s1 ?k1 ?k2 ?k3 ?k4 ?k5 ?kK ?kd ?ku ?_; (case k1 => k_asm); (case k2 => k_asm); (case k3 => k_in); (case k4 => k_asm); (case U => k_updF); (case k5 => k_asm); (case kK => first | exact rfl | assumption); (case kd => first | (refine' rm1 ?rh ?re; (case rh => assumption); (case re => exact rfl)) | (refine' rm2 ?rh ?re; (case rh => assumption); (case re => exact rfl)) | (refine' rm3 ?rh ?re; (case rh => assumption); (case re => exact rfl)) | ktr_room); (case ku => first | (refine' un1 ?rh ?re; (case rh => assumption); (case re => exact rfl)) | (refine' un2 ?rh ?re; (case rh => assumption); (case re => exact rfl)) | (refine' un3 ?rh ?re; (case rh => assumption); (case re => exact rfl)) | ktr_units); (case s0 => first | assumption | omega); (case s1 => first | assumption | omega); intro r9 f9 o9 h9 tk9 F9 N9 R9 hl9; obtain ⟨D9, q9, t9, u9, c9, a9, ta9, b9, tb9, n9, e9, e8, e7, hq9, hb0, hb1⟩ := R9; subst e9; subst e8; subst e7; (try simp only [Int.reduceToNat, Int.reducePow] at hx1); (try simp only [List.cons_append, List.nil_append, List.forall_mem_cons, List.not_mem_nil, false_implies, implies_true, and_true, AllLt] at hl9); (try simp only [List.cons_append, List.nil_append] at N9); (try dsimp only); (try k_sweep); (try k_fold)))
  exact True.intro
set_option maxRecDepth 100000 in
set_option maxHeartbeats 8000000 in
theorem c_pair (w : World) (news : List (Addr × Obj)) (S : Addr) (a b : Int) (ta tb : Tok) (n : Nat) (hS : ∀ p ∈ news, p.1 ≠ S) (hb0 : 0 ≤ b) (hb1 : b < 2147483648) :
    Ct w 201 3 ([(S, listOf #[.int a ta, .int b tb] n)] ++ news) [.ref S] (SrcBack S PairR news) := by
  w_on
  unfold Ct
  intro mean mg mb dp un gd cn cs a9 ccd cl outer A₀ base h₀ L m s Q E B9 F9 X9 N9 T9 hk9 hdp hun hret
  simp only [List.cons_append, List.nil_append] at N9 hret
  refine wpAny_call ?_
  k_dflt (refine' code_def ?k1 ?k2 ?k3 ?k4 ?k5 ?kA ?kF ?kK ?k6 ?k7 ?k8 ?k9 ?kB ?_ ?c2 ?c3 ?c4 ?c5; (case kA => exact rfl); (case kF => exact rfl); (case kK => assumption); (case k1 => k_asm); (case k2 => k_asm); (case k3 => k_asm); (case k4 => k_asm); (case k5 => k_asm); (case k6 => k_is); (case k7 => k_is); (case k8 => ktr_room); (case k9 => first | exact BindsTo.of_eq rfl | exact binds_K (by k_in) rfl (by k_is) rfl rfl rfl); (case c5 => decide); (case kB => exact locs rfl); (case c2 => exact rfl); (case c3 => exact rfl); (case c4 => exact rfl); k_whole; intro g' L' h' FG' F' N' B' X' T'; (try dsimp only); (try k_lift B'); (try k_fold))
  w_strict (k_steps)
  refine' npair_end hret ?kF ?kN ?km ?km1 ?km2 ?km3 ?ks ?kl ?kl1 ?kl2 ?kq1 ?kq2 ?kb0 ?kb1
  case kF => k_asm
  case kN => k_asm
  case km => k_mem
  case km1 => k_mem
  case km2 => k_mem
  case km3 => k_mem
  case ks => kcj_all
  case kl => first | kcu_lt | ((try simp only [AllLt, and_true]); (repeat' (rename (_ ∧ _) => l9; obtain ⟨l9a, l9b⟩ := l9)); (repeat' (refine And.intro ?_ ?_)) <;> first | trivial | assumption | omega)
  case kl1 => first | kcu_lt | ((try simp only [AllLt, and_true]); (repeat' (rename (_ ∧ _) => l9; obtain ⟨l9a, l9b⟩ := l9)); (repeat' (refine And.intro ?_ ?_)) <;> first | trivial | assumption | omega)
  case kl2 => first | kcu_lt | ((try simp only [AllLt, and_true]); (repeat' (rename (_ ∧ _) => l9; obtain ⟨l9a, l9b⟩ := l9)); (repeat' (refine And.intro ?_ ?_)) <;> first | trivial | assumption | omega)
  case kq1 => assumption
  case kq2 => assumption
  case kb0 => first | assumption | omega
  case kb1 => first | assumption | omega
theorem use_npair {w : World} {S : Addr} {nwL : List (Addr × Obj)} {g : Obj → List (Addr × Obj)} {mean : ExcName → Option Value} {mg mb : Str → Option Value} {dp un : Nat} {gd : Option (List Code)} {cn : Str} {cs : Scope} {a9 : Addr} {ccd : Value} {cl : List (Str × Addr)} {outer : List Env} {A₀ : Around} {base h₀ : Heap} {L : Addr} {m : Str → Option Value} {s : Shared} {Q E : Value → Shared → Prop} {a b : Int} {ta tb : Tok} {n : Nat} (U : UpdF S (listOf #[.int a ta, .int b tb] n) nwL g) (hb0 : 0 ≤ b) (hb1 : b < 2147483648) (B : Below A₀ base outer h₀) (F : Fr h₀ L s.heap m) (X : (hd.heap_39 w.params).In h₀) (N : News h₀ L s.heap nwL) (T : Top topProg LO mean mg mb h₀) (hk : cs.kind = .function) (hd : dp + 3 < recursionLimit) (hu : un + 8 * 3 < cLine)
    (k : ∀ r front o' h' tk', Fr h₀ L h' m → News h₀ L h' (front ++ g o') → PairR r front o' → (∀ p ∈ front, AllLt p.1 nwL) → Q r { s with heap := h', toks := tk' }) :
    wpAny (model PySem.Challenge.rw_xm0691_01.row.prog w) (ktrTop dp un gd cn cs L a9 ccd cl outer) (call (.ref 201) [.ref S]) Q E s :=
  use_src U (fun news hS => c_pair w news S a b ta tb n hS hb0 hb1) B F X N T hk hd hu k
end Mine
namespace Mine
open PyProof.Rows.LCg
abbrev TupSrc (ax : Addr) (its : Array Value) (nw : List (Addr × Obj)) : Prop := False ∨ ∃ o, (ax, o) ∈ nw ∧ o.cls = .type "tuple" ∧ ∃ n, o.data = .seq its n
theorem TupSrc.at {h₀ h : Heap} {L ax : Addr} {its : Array Value} {nw : List (Addr × Obj)} (S : TupSrc ax its nw) (N : News h₀ L h nw) : h.IsTuple ax its := by
  rcases S with S | ⟨o, hm, hc, n, hd⟩
  · exact S.elim
  · exact ⟨o, (N _ hm).1, hc, n, hd⟩
section
variable {prog : Program} {w : World} {A : Around} {E : Value → Shared → Prop} {s : Shared} {h₀ : Heap} {L : Addr} {m : Str → Option Value} {env : Env}
/-- the source is a tuple of the ledger; what its turns do -/
def SrcTup (prog : Program) (w : World) (A : Around) (h₀ : Heap) (L : Addr) (m : Str → Option Value) (env : Env) (elt : PySem.Expr) (x : Str) (scope : Scope) (cl : List (Str × Addr)) (Q : Value → Shared → Prop) (xv : Value) (s₁ : Shared) : Prop :=
  ∃ ax its news, xv = .ref ax ∧ A.handled = none ∧ Fr h₀ L s₁.heap m ∧ News h₀ L s₁.heap news ∧ TupSrc ax its news ∧ its.size ≤ sizeLine ∧
    ∀ g, CompRest prog w A h₀ L m env elt x scope cl { s₁ with heap := g } (TupSrc ax its) (fun i v => its[i]? = some v) (FinE h₀ L m { s₁ with heap := g } Q) its.size 0 [] news
theorem SrcTup.intro {elt : PySem.Expr} {x : Str} {scope : Scope} {cl : List (Str × Addr)} {Q : Value → Shared → Prop} {ax : Addr} {its : Array Value} {k : Nat} {news : List (Addr × Obj)} {s₁ : Shared}
    (hh : A.handled = none) (F : Fr h₀ L s₁.heap m) (N : News h₀ L s₁.heap news) (hm : (ax, ({ cls := .type "tuple", data := .seq its k } : Obj)) ∈ news) (hsz : its.size ≤ sizeLine)
    (h : ∀ g, CompRest prog w A h₀ L m env elt x scope cl { s₁ with heap := g } (TupSrc ax its) (fun i v => its[i]? = some v) (FinE h₀ L m { s₁ with heap := g } Q) its.size 0 [] news) :
    SrcTup prog w A h₀ L m env elt x scope cl Q (.ref ax) s₁ := ⟨ax, its, news, rfl, hh, F, N, .inr ⟨_, hm, rfl, _, rfl⟩, hsz, h⟩
theorem comp_tup {elt iter : PySem.Expr} {x : Str} {px : Pos} {scope : Scope} {cl : List (Str × Addr)} {pos : Pos} {Q : Value → Shared → Prop} (_F : Fr h₀ L s.heap m)
    (hclos : closureFor scope env = pure cl) (hcell : ∀ y ∈ scope.names, y.2 ≠ .cell) (hkind : scope.kind = .function)
    (hnames : ∀ y ∈ scope.names, y.2 = .local → scope.names.lookup y.1 = some .local) (hx : scope.names.lookup x = some .local)
    (h : wpAny (model prog w) A (eval iter env) (SrcTup prog w A h₀ L m env elt x scope cl Q) E s)
    (hs : ∀ x, foldedSetIterable iter env x = pure x := by intro _; rfl) :
    wpAny (model prog w) A (eval (.ListComp elt [⟨.Name x px, iter, [], 0⟩] scope pos) env) Q E s := by
  rw [eval_ListComp]
  refine wpAny_comprehension_free (use := none) rfl hs hclos hkind hnames (wpAny_mono h (fun xv s₁ h₁ => ?_) fun _ _ e => e)
  obtain ⟨ax, its, news, rfl, hh, F, N, S, hsz, R⟩ := h₁
  have ht := S.at N
  have hlt : ax < s₁.heap.objs.size := by
    obtain ⟨_, e, _⟩ := ht
    exact Heap.lt_size e
  have grow : ∀ b o, s₁.heap.get? b = some o → (s₁.heap.push { cls := .type "tuple_iterator", data := .fields #[.ref ax, .int 0 0] }).get? b = some o := fun b o e => Heap.get?_push_of_some _ e
  refine wpAny_pyIter_tuple ht ?_
  refine block_U (W := Walks.tuple hh s₁.heap.objs.size ax (Nat.ne_of_lt hlt) its) (S := TupSrc ax its) (hsz := hsz) (hIo := ?io) (hSt := ?st) (hcell := hcell) (hkind := hkind) (hx := hx) (hst := ?st0) (hfp := ?fp) (F := F.keeps grow) (N := N.grown grow) (hIL := Nat.ne_of_lt F.ns.lt) (hI₀ := next_is_new F) (off := ?off) (hS := S) (R := R _) (hRR := ?rr)
  case io => exact fun i h st => let ⟨o, e, _⟩ := st.1; ⟨o, e⟩
  case st =>
    intro i h h' o nw st e e' _ N' S'
    refine ⟨?_, S'.at N'⟩
    obtain ⟨o', q, r⟩ := st.1
    rw [e] at q
    cases q
    exact ⟨o, e', r⟩
  case st0 => exact ⟨⟨_, Heap.get?_push_size _ rfl, rfl, rfl⟩, ht.push _⟩
  case fp =>
    intro b hb
    show b < (s₁.heap.push _).objs.size
    rw [Heap.size_push]
    rcases List.mem_cons.mp hb with rfl | hb
    · exact Nat.lt_succ_self _
    · rw [List.mem_singleton.mp hb]
      exact Nat.lt_succ_of_lt hlt
  case off => exact fun p hp => Nat.ne_of_lt (Heap.lt_size (N p hp).1)
  case rr =>
    intro D C h tk m' ys news' F' N' o1 hn hC₀ _ hCL _ hCD offC fin
    refine ⟨m', hn, fun h'' hs'' => fin D h'' tk (F'.change hs'' hCL hC₀) (fun p hp => ⟨hs''.extBut _ _ ?_ (N' p hp).1, (N' p hp).2⟩) o1⟩
    rcases List.mem_cons.mp hp with rfl | hp
    · exact Ne.symm hCD
    · exact offC p hp
end
end Mine
namespace Mine

open PySem.Spec in
theorem reads_two {h₀ h : Heap} {L : Addr} {news : List (Addr × Obj)} (N : News h₀ L h news) {D : Addr} {x y : Int} {t u : Tok} {c : Nat} (hm : (D, tup2 (.int x t) (.int y u) c) ∈ news) : Reads h (.ref D) (.tuple [.int x, .int y]) [] :=
  reads_tuple_at (N.get hm) rfl rfl (.cons (.int _ _) (.cons (.int _ _) .nil))
open PySem.Spec in
theorem reads_pair {h₀ h : Heap} {L : Addr} {news : List (Addr × Obj)} (N : News h₀ L h news) {P D1 D2 : Addr} {c : Nat} {d1 d2 : PyData} (r1 : Reads h (.ref D1) d1 []) (r2 : Reads h (.ref D2) d2 []) (hm : (P, tup2 (.ref D1) (.ref D2) c) ∈ news) : Reads h (.ref P) (.tuple [d1, d2]) [] :=
  reads_tuple_at (N.get hm) rfl rfl (.cons r1 (.cons r2 .nil))
open PySem.Spec in
theorem reads_lst {h₀ h : Heap} {L : Addr} {news : List (Addr × Obj)} (N : News h₀ L h news) {P D1 D2 : Addr} {c : Nat} {d1 d2 : PyData} (r1 : Reads h (.ref D1) d1 []) (r2 : Reads h (.ref D2) d2 []) (hm : (P, listOf #[.ref D1, .ref D2] c) ∈ news) : Reads h (.ref P) (.list [d1, d2]) [P] :=
  reads_list_at (N.get hm) rfl rfl (.cons r1 (.cons r2 .nil))
section
variable {prog : Program} {w : World} {A : Around} {E : Value → Shared → Prop} {s : Shared} {h₀ : Heap} {L : Addr} {news : List (Addr × Obj)} {Q : Value → Shared → Prop}
theorem ne_pairs {LA LB a b c d a1 a2 b1 b2 c1 c2 d1 d2 : Addr} {xa1 ya1 xa2 ya2 xb1 yb1 xb2 yb2 xc1 yc1 xc2 yc2 xd1 yd1 xd2 yd2 : Int} {t1 t2 t3 t4 t5 t6 t7 t8 u1 u2 u3 u4 u5 u6 u7 u8 : Tok} {n1 n2 n3 n4 n5 n6 n7 n8 n9 n10 n11 n12 n13 n14 : Nat}
    (N : News h₀ L s.heap news) (hu : A.units + 64 < cLine)
    (m1 : (LA, listOf #[.ref a, .ref b] n1) ∈ news) (m2 : (LB, listOf #[.ref c, .ref d] n2) ∈ news)
    (m3 : (a, tup2 (.ref a1) (.ref a2) n3) ∈ news) (m4 : (b, tup2 (.ref b1) (.ref b2) n4) ∈ news) (m5 : (c, tup2 (.ref c1) (.ref c2) n5) ∈ news) (m6 : (d, tup2 (.ref d1) (.ref d2) n6) ∈ news)
    (k1 : (a1, tup2 (.int xa1 t1) (.int ya1 u1) n7) ∈ news) (k2 : (a2, tup2 (.int xa2 t2) (.int ya2 u2) n8) ∈ news) (k3 : (b1, tup2 (.int xb1 t3) (.int yb1 u3) n9) ∈ news) (k4 : (b2, tup2 (.int xb2 t4) (.int yb2 u4) n10) ∈ news)
    (k5 : (c1, tup2 (.int xc1 t5) (.int yc1 u5) n11) ∈ news) (k6 : (c2, tup2 (.int xc2 t6) (.int yc2 u6) n12) ∈ news) (k7 : (d1, tup2 (.int xd1 t7) (.int yd1 u7) n13) ∈ news) (k8 : (d2, tup2 (.int xd2 t8) (.int yd2 u8) n14) ∈ news)
    (e1 : xa1 = xc1) (e2 : ya1 = yc1) (e3 : xa2 = xc2) (e4 : ya2 = yc2) (e5 : xb1 = xd1) (e6 : yb1 = yd1) (e7 : xb2 = xd2) (e8 : yb2 = yd2)
    (h : Q (.bool false) s) : wpAny (model prog w) A (compareOp .NotEq (.ref LA) (.ref LB)) Q E s := by
  refine ne_dataH (reads_lst N (reads_pair N (reads_two N k1) (reads_two N k2) m3) (reads_pair N (reads_two N k3) (reads_two N k4) m4) m1) (reads_lst N (reads_pair N (reads_two N k5) (reads_two N k6) m5) (reads_pair N (reads_two N k7) (reads_two N k8) m6) m2) rfl rfl hu ?_
  subst e1; subst e2; subst e3; subst e4; subst e5; subst e6; subst e7; subst e8
  have e : PyData.eqv (.list [.tuple [.tuple [.int xa1, .int ya1], .tuple [.int xa2, .int ya2]], .tuple [.tuple [.int xb1, .int yb1], .tuple [.int xb2, .int yb2]]]) (.list [.tuple [.tuple [.int xa1, .int ya1], .tuple [.int xa2, .int ya2]], .tuple [.tuple [.int xb1, .int yb1], .tuple [.int xb2, .int yb2]]]) = true := by
    simp [PyData.eqv, PyData.eqvAll]
  rw [e]
  exact h
theorem eq_rats {LA LB a b c d : Addr} {xa ya xb yb xc yc xd yd : Int} {t1 t2 t3 t4 u1 u2 u3 u4 : Tok} {n1 n2 n3 n4 n5 n6 : Nat}
    (N : News h₀ L s.heap news) (hu : A.units + 64 < cLine)
    (m1 : (LA, listOf #[.ref a, .ref b] n1) ∈ news) (m2 : (LB, listOf #[.ref c, .ref d] n2) ∈ news)
    (k1 : (a, tup2 (.int xa t1) (.int ya u1) n3) ∈ news) (k2 : (b, tup2 (.int xb t2) (.int yb u2) n4) ∈ news) (k3 : (c, tup2 (.int xc t3) (.int yc u3) n5) ∈ news) (k4 : (d, tup2 (.int xd t4) (.int yd u4) n6) ∈ news)
    (e1 : xa = xc) (e2 : ya = yc) (e3 : xb = xd) (e4 : yb = yd)
    (h : Q (.bool true) s) : wpAny (model prog w) A (compareOp .Eq (.ref LA) (.ref LB)) Q E s := by
  refine eq_dataH (reads_lst N (reads_two N k1) (reads_two N k2) m1) (reads_lst N (reads_two N k3) (reads_two N k4) m2) rfl rfl hu ?_
  subst e1; subst e2; subst e3; subst e4
  have e : PyData.eqv (.list [.tuple [.int xa, .int ya], .tuple [.int xb, .int yb]]) (.list [.tuple [.int xa, .int ya], .tuple [.int xb, .int yb]]) = true := by
    simp [PyData.eqv, PyData.eqvAll]
  rw [e]
  exact h
end
theorem news_keep {h₀ h : Heap} {L : Addr} {l : List (Addr × Obj)} (n : Nat) (N : News h₀ L h l) : News h₀ L h (l.drop (l.length - n)) := fun p hp => N p (List.mem_of_mem_drop hp)
def picked (i j k n : Nat) (l : List (Addr × Obj)) : List (Addr × Obj) := l.take i ++ ((l.drop j).take k ++ l.drop (l.length - n))
theorem news_pick {h₀ h : Heap} {L : Addr} {l : List (Addr × Obj)} (i j k n : Nat) (N : News h₀ L h l) : News h₀ L h (picked i j k n l) := fun p hp => N p (by
  rcases List.mem_append.mp hp with hp | hp
  · exact List.mem_of_mem_take hp
  · rcases List.mem_append.mp hp with hp | hp
    · exact List.mem_of_mem_drop (List.mem_of_mem_take hp)
    · exact List.mem_of_mem_drop hp)
def Mk : Prop := True
theorem allLt_tab {D : Addr} {l : List (Addr × Obj)} {o : Obj} (h : AllLt D l) (hm : (210, o) ∈ l) : @LT.lt Nat _ 210 D := allLt_mem h _ hm
theorem tab_lt {D : Addr} {l : List (Addr × Obj)} {o : Obj} (h : ∀ p ∈ l, p.1 < D) (hm : (210, o) ∈ l) : @LT.lt Nat _ 210 D := h _ hm
theorem zsub (q : Rat) : (-q).num = 0 - q.num := by show -q.num = 0 - q.num; omega
local macro_rules | `(tactic| k_room) => `(tactic| ktr_room)
local macro_rules | `(tactic| bits_by_make) => `(tactic| first | exact sm_num (by with_reducible assumption) | exact sm_den (by with_reducible assumption) | with_reducible assumption)
local macro_rules | `(tactic| bits_by_make) => `(tactic| first | with_reducible assumption | ((with_reducible apply sm_addw) <;> bits_by_make) | ((with_reducible apply sm_add) <;> bits_by_make) | ((with_reducible apply sm_sub) <;> bits_by_make) | ((with_reducible apply sm_mul) <;> bits_by_make) | exact sm_one | exact sm_half)
local macro_rules | `(tactic| k_ne) => `(tactic| (refine neN ?_; (try dsimp only); first | with_reducible assumption | exact Nat.ne_of_gt (by with_reducible assumption)))
local macro_rules | `(tactic| walk_at "eval ListComp") => `(tactic| k_extra "own eval ListComp")
local macro_rules | `(tactic| walk_at "SrcTup") => `(tactic| k_extra "own SrcTup")
local macro_rules | `(tactic| walk_at "newTuple") => `(tactic| k_extra "own newTuple")
local macro_rules | `(tactic| walk_at "newList") => `(tactic| k_extra "own newList")
local macro_rules | `(tactic| walk_at "execs cons") => `(tactic| k_extra "own execs cons")
local macro_rules | `(tactic| walk_at "CompEnd") => `(tactic| k_extra "own CompEnd")
local macro_rules | `(tactic| walk_at "compareOp NotEq ref ref") => `(tactic| k_extra "own compareOp NotEq ref ref")
local macro_rules | `(tactic| walk_at "compareOp Eq ref ref") => `(tactic| k_extra "own compareOp Eq ref ref")
local macro_rules | `(tactic| walk_at "callWith ref") => `(tactic| k_extra "own callWith ref")
local macro_rules | `(tactic| walk_at "subscriptTail Name Constant ref int") => `(tactic| k_extra "own subscriptTail Name Constant ref int")
local macro_rules | `(tactic| walk_at "call ref") => `(tactic| k_extra "own call")
theorem rows9 : True := by
  k_with_none
  k_with "own eval ListComp" => (k_here; k_dflt (refine comp_tup (_F := by k_asm) (by with_unfolding_all rfl) (by decide) (by rfl) (by decide) (by rfl) ?_))
  k_with "own SrcTup" => (k_here; k_dflt (refine SrcTup.intro (by rfl) (by k_asm) (by k_asm) (by k_mem) (by exact Nat.le_of_ble_eq_true rfl) ?_; intro g'; lcg_lit))
  k_with "own newTuple" => (k_here; k_dflt (refine' kup_newTuple ?zzF ?zzN ?_ ?zzz; (case zzF => k_asm); (case zzN => k_asm); (case zzz => kmk_size)); intro D' h' F' N' l1; k_dflt (first | ((with_reducible rename Mk => nsX); k_lt l1) | ((with_reducible rename LCg.NsObj _ _ => nsX); k_lt l1) | (have l2 := tab_lt l1 (by k_mem); clear l1)); (try k_sweep))
  k_with "own newList" => (k_here; k_dflt (refine' newList_K ?zzk1 ?zzk2 ?_; (case zzk1 => k_asm); (case zzk2 => k_asm); k_whole); intro D' h' F' N' l1; k_dflt (first | ((with_reducible rename Mk => nsX); k_lt l1) | ((with_reducible rename LCg.NsObj _ _ => nsX); k_lt l1) | (have l2 := tab_lt l1 (by k_mem); clear l1)); (try k_sweep))
  k_with "own execs cons" => ((with_reducible show wpAny _ _ (execs (PySem.Stmt.Assign [PySem.Expr.Name (PySem.Str.ofString "shared") _] _ _ :: _) _) _ _ _); k_dflt ((rename News _ _ _ _ => nP); (have nQ := news_pick 1 0 0 13 nP); (clear nP); (simp only [picked, List.length_cons, List.length_nil, Nat.reduceAdd, Nat.reduceSub, List.drop_succ_cons, List.drop_zero, List.take_succ_cons, List.take_zero, List.cons_append, List.nil_append] at nQ); (repeat (with_reducible rename (_ ∧ _) => l9; clear l9)); (repeat (with_reducible rename LCg.NsObj _ _ => l9; clear l9)); (repeat (with_reducible rename Mk => l9; clear l9)); (try dsimp only); refine wpAny_execs_cons ?_))
  k_with "own execs cons" => ((with_reducible show wpAny _ _ (execs (PySem.Stmt.Assign [PySem.Expr.Name (PySem.Str.ofString "half") _] _ _ :: _) _) _ _ _); k_dflt ((rename News _ _ _ _ => nP); (have nQ := news_pick 2 4 1 13 nP); (clear nP); (simp only [picked, List.length_cons, List.length_nil, Nat.reduceAdd, Nat.reduceSub, List.drop_succ_cons, List.drop_zero, List.take_succ_cons, List.take_zero, List.cons_append, List.nil_append] at nQ); (repeat (with_reducible rename (_ ∧ _) => l9; clear l9)); (repeat (with_reducible rename LCg.NsObj _ _ => l9; clear l9)); (repeat (with_reducible rename Mk => l9; clear l9)); (try dsimp only); refine wpAny_execs_cons ?_))
  k_with "own execs cons" => ((with_reducible show wpAny _ _ (execs (PySem.Stmt.If _ _ _ _ :: PySem.Stmt.Assign [PySem.Expr.Name (PySem.Str.ofString "led") _] _ _ :: _) _) _ _ _); k_dflt ((rename News _ _ _ _ => nP); (have nQ := news_pick 2 4 1 16 nP); (clear nP); (simp only [picked, List.length_cons, List.length_nil, Nat.reduceAdd, Nat.reduceSub, List.drop_succ_cons, List.drop_zero, List.take_succ_cons, List.take_zero, List.cons_append, List.nil_append] at nQ); (repeat (with_reducible rename (_ ∧ _) => l9; clear l9)); (repeat (with_reducible rename LCg.NsObj _ _ => l9; clear l9)); (repeat (with_reducible rename Mk => l9; clear l9)); (try dsimp only); refine wpAny_execs_cons ?_))
  k_with "own execs cons" => ((with_reducible show wpAny _ _ (execs (PySem.Stmt.Assign [PySem.Expr.Name (PySem.Str.ofString "led") _] _ _ :: _) _) _ _ _); k_dflt ((rename News _ _ _ _ => nP); (have nQ := news_pick 0 0 0 13 nP); (clear nP); (simp only [picked, List.length_cons, List.length_nil, Nat.reduceAdd, Nat.reduceSub, List.drop_succ_cons, List.drop_zero, List.take_succ_cons, List.take_zero, List.cons_append, List.nil_append] at nQ); (repeat (with_reducible rename (_ ∧ _) => l9; clear l9)); (repeat (with_reducible rename LCg.NsObj _ _ => l9; clear l9)); (repeat (with_reducible rename Mk => l9; clear l9)); (try dsimp only); refine wpAny_execs_cons ?_))
  k_with "own execs cons" => ((with_reducible show wpAny _ _ (execs (PySem.Stmt.Assign [PySem.Expr.Name (PySem.Str.ofString "way") _] _ _ :: _) _) _ _ _); k_dflt ((rename News _ _ _ _ => nP); (have nQ := news_pick 3 0 0 13 nP); (clear nP); (simp only [picked, List.length_cons, List.length_nil, Nat.reduceAdd, Nat.reduceSub, List.drop_succ_cons, List.drop_zero, List.take_succ_cons, List.take_zero, List.cons_append, List.nil_append] at nQ); (repeat (with_reducible rename (_ ∧ _) => l9; clear l9)); (repeat (with_reducible rename LCg.NsObj _ _ => l9; clear l9)); (repeat (with_reducible rename Mk => l9; clear l9)); (try dsimp only); refine wpAny_execs_cons ?_))
  k_with "own execs cons" => ((with_reducible show wpAny _ _ (execs (PySem.Stmt.If _ _ _ _ :: PySem.Stmt.Assign [PySem.Expr.Name (PySem.Str.ofString "told") _] _ _ :: _) _) _ _ _); k_dflt ((rename News _ _ _ _ => nP); (have nQ := news_pick 3 0 0 16 nP); (clear nP); (simp only [picked, List.length_cons, List.length_nil, Nat.reduceAdd, Nat.reduceSub, List.drop_succ_cons, List.drop_zero, List.take_succ_cons, List.take_zero, List.cons_append, List.nil_append] at nQ); (repeat (with_reducible rename (_ ∧ _) => l9; clear l9)); (repeat (with_reducible rename LCg.NsObj _ _ => l9; clear l9)); (repeat (with_reducible rename Mk => l9; clear l9)); (try dsimp only); refine wpAny_execs_cons ?_))
  k_with "own execs cons" => ((with_reducible show wpAny _ _ (execs (PySem.Stmt.Assign [PySem.Expr.Name (PySem.Str.ofString "told") _] _ _ :: _) _) _ _ _); k_dflt ((rename News _ _ _ _ => nP); (have nQ := news_pick 0 0 0 13 nP); (clear nP); (simp only [picked, List.length_cons, List.length_nil, Nat.reduceAdd, Nat.reduceSub, List.drop_succ_cons, List.drop_zero, List.take_succ_cons, List.take_zero, List.cons_append, List.nil_append] at nQ); (repeat (with_reducible rename (_ ∧ _) => l9; clear l9)); (repeat (with_reducible rename LCg.NsObj _ _ => l9; clear l9)); (repeat (with_reducible rename Mk => l9; clear l9)); (try dsimp only); refine wpAny_execs_cons ?_))
  k_with "own execs cons" => ((with_reducible show wpAny _ _ (execs (PySem.Stmt.Assign [PySem.Expr.Name (PySem.Str.ofString "inner") _] _ _ :: _) _) _ _ _); k_dflt ((rename News _ _ _ _ => nP); (have nQ := news_pick 0 0 0 13 nP); (clear nP); (simp only [picked, List.length_cons, List.length_nil, Nat.reduceAdd, Nat.reduceSub, List.drop_succ_cons, List.drop_zero, List.take_succ_cons, List.take_zero, List.cons_append, List.nil_append] at nQ); (repeat (with_reducible rename (_ ∧ _) => l9; clear l9)); (repeat (with_reducible rename LCg.NsObj _ _ => l9; clear l9)); (repeat (with_reducible rename Mk => l9; clear l9)); (try dsimp only); refine wpAny_execs_cons ?_))
  k_with "own CompEnd" => ((repeat (with_reducible rename (_ ∧ _) => l9; obtain ⟨l9a, l9b⟩ := l9)); k_dflt lcg_end)
  k_with "own execs cons" => ((with_reducible show wpAny _ _ (execs (PySem.Stmt.Assign [PySem.Expr.Name (PySem.Str.ofString "turned") _] _ _ :: _) _) _ _ _); k_dflt ((repeat (with_reducible rename (_ ∧ _) => l9; clear l9)); (repeat (with_reducible rename ((_ : Nat) ≠ _) => l9; clear l9)); (repeat (with_reducible rename (_ ≠ _) => l9; clear l9)); (try dsimp only); refine wpAny_execs_cons ?_))
  k_with "own execs cons" => ((with_reducible show wpAny _ _ (execs (PySem.Stmt.If _ _ _ _ :: PySem.Stmt.Assign [PySem.Expr.Name (PySem.Str.ofString "inner") _] _ _ :: _) _) _ _ _); k_dflt ((repeat (with_reducible rename (_ ∧ _) => l9; clear l9)); (repeat (with_reducible rename ((_ : Nat) ≠ _) => l9; clear l9)); (repeat (with_reducible rename (_ ≠ _) => l9; clear l9)); (repeat (with_reducible rename LCg.NsObj _ _ => l9; clear l9)); (try dsimp only); refine wpAny_execs_cons ?_))
  k_with "own compareOp NotEq ref ref" => (k_here; k_dflt (refine' ne_pairs ?zzN ?zzu ?zzm1 ?zzm2 ?zzm3 ?zzm4 ?zzm5 ?zzm6 ?zzk1 ?zzk2 ?zzk3 ?zzk4 ?zzk5 ?zzk6 ?zzk7 ?zzk8 ?zze1 ?zze2 ?zze3 ?zze4 ?zze5 ?zze6 ?zze7 ?zze8 ?_; (case zzN => k_asm); (case zzu => ke_room); (case zzm1 => k_mem); (case zzm2 => k_mem); (case zzm3 => k_mem); (case zzm4 => k_mem); (case zzm5 => k_mem); (case zzm6 => k_mem); (case zzk1 => k_mem); (case zzk2 => k_mem); (case zzk3 => k_mem); (case zzk4 => k_mem); (case zzk5 => k_mem); (case zzk6 => k_mem); (case zzk7 => k_mem); (case zzk8 => k_mem); (case zze1 => first | rfl | exact zsub _); (case zze2 => first | rfl | exact zsub _); (case zze3 => first | rfl | exact zsub _); (case zze4 => first | rfl | exact zsub _); (case zze5 => first | rfl | exact zsub _); (case zze6 => first | rfl | exact zsub _); (case zze7 => first | rfl | exact zsub _); (case zze8 => first | rfl | exact zsub _); skip))
  k_with "own compareOp Eq ref ref" => (k_here; k_dflt (refine' eq_rats ?zzN ?zzu ?zzm1 ?zzm2 ?zzk1 ?zzk2 ?zzk3 ?zzk4 ?zze1 ?zze2 ?zze3 ?zze4 ?_; (case zzN => k_asm); (case zzu => ke_room); (case zzm1 => k_mem); (case zzm2 => k_mem); (case zzk1 => k_mem); (case zzk2 => k_mem); (case zzk3 => k_mem); (case zzk4 => k_mem); (case zze1 => first | rfl | exact zsub _); (case zze2 => first | rfl | exact zsub _); (case zze3 => first | rfl | exact zsub _); (case zze4 => first | rfl | exact zsub _); skip))
  k_with "own callWith ref" => (k_here; k_dflt (refine' callWith_K ?zzk1 ?zzk2 ?_; (case zzk1 => k_asm); (case zzk2 => k_is); k_whole))
  k_with "own subscriptTail Name Constant ref int" => (k_here; (with_reducible show wpAny _ _ (subscriptTail _ _ (Value.ref _) (Value.int _ _)) _ _ _); k_dflt (refine' item_tupleT ?zzt ?zza ?zzb ?zzc ?zzd ?_; (case zzt => exact News.isTup (by k_asm) (by k_mem)); (case zza => decide); (case zzb => decide); (case zzc => rfl); (case zzd => rfl); k_whole))
  k_with "own call" => (k_here; (with_reducible show wpAny _ _ (call (Value.ref 187) _) _ _ _); k_dflt (refine' use_rat (c_product _ _ _ _ _ _ _ _ _ _ _ _ ?s0 ?s1) ?km ?k1 ?k2 ?k3 ?k4 ?k5 ?kK ?kd ?ku ?_; (case k1 => k_asm); (case k2 => k_asm); (case k3 => k_in); (case k4 => k_asm); (case k5 => k_asm); (case kK => first | exact rfl | assumption); (case km => (repeat' (first | exact List.forall_mem_nil _ | (refine List.forall_mem_cons.mpr (And.intro ?_ ?_)) | k_mem))); (case kd => first | (refine' rm1 ?rh ?re; (case rh => assumption); (case re => exact rfl)) | (refine' rm2 ?rh ?re; (case rh => assumption); (case re => exact rfl)) | (refine' rm3 ?rh ?re; (case rh => assumption); (case re => exact rfl)) | ktr_room); (case ku => first | (refine' un1 ?rh ?re; (case rh => assumption); (case re => exact rfl)) | (refine' un2 ?rh ?re; (case rh => assumption); (case re => exact rfl)) | (refine' un3 ?rh ?re; (case rh => assumption); (case re => exact rfl)) | ktr_units); (case s0 => first | assumption | (refine' Sm.le ?sh ?sk; (case sh => bits_by_make); (case sk => decide))); (case s1 => first | assumption | (refine' Sm.le ?sh ?sk; (case sh => bits_by_make); (case sk => decide))); intro D9 t9 u9 c9 h9 tk9 F9 N9 hl9; (first | ((with_reducible rename Mk => nsX); (have hl6 := allLt_tab hl9 (by k_mem)); simp only [AllLt, and_true] at hl9) | (with_reducible rename LCg.NsObj _ _ => nsX; simp only [AllLt, and_true] at hl9) | (have hl6 := allLt_tab hl9 (by k_mem); clear hl9)); (try dsimp only); (try k_sweep); (try k_fold)))
  k_with "own call" => (k_here; (with_reducible show wpAny _ _ (call (Value.ref 187) _) _ _ _); k_dflt (refine' use_rat (c_product_half _ _ _ _ _ _ _ _ _ _ _ ?s0) ?km ?k1 ?k2 ?k3 ?k4 ?k5 ?kK ?kd ?ku ?_; (case k1 => k_asm); (case k2 => k_asm); (case k3 => k_in); (case k4 => k_asm); (case k5 => k_asm); (case kK => first | exact rfl | assumption); (case km => (repeat' (first | exact List.forall_mem_nil _ | (refine List.forall_mem_cons.mpr (And.intro ?_ ?_)) | k_mem))); (case kd => first | (refine' rm1 ?rh ?re; (case rh => assumption); (case re => exact rfl)) | (refine' rm2 ?rh ?re; (case rh => assumption); (case re => exact rfl)) | (refine' rm3 ?rh ?re; (case rh => assumption); (case re => exact rfl)) | ktr_room); (case ku => first | (refine' un1 ?rh ?re; (case rh => assumption); (case re => exact rfl)) | (refine' un2 ?rh ?re; (case rh => assumption); (case re => exact rfl)) | (refine' un3 ?rh ?re; (case rh => assumption); (case re => exact rfl)) | ktr_units); (case s0 => first | assumption | (refine' Sm.le ?sh ?sk; (case sh => bits_by_make); (case sk => decide))); intro D9 t9 u9 c9 h9 tk9 F9 N9 hl9; (first | ((with_reducible rename Mk => nsX); (have hl6 := allLt_tab hl9 (by k_mem)); simp only [AllLt, and_true] at hl9) | (with_reducible rename LCg.NsObj _ _ => nsX; simp only [AllLt, and_true] at hl9) | (have hl6 := allLt_tab hl9 (by k_mem); clear hl9)); (try dsimp only); (try k_sweep); (try k_fold)))
  k_with "own call" => (k_here; (with_reducible show wpAny _ _ (call (Value.ref 180) _) _ _ _); k_dflt (refine' use_rat (c_sum_p _ _ _ _ _ _ _ _ _ _ _ _ _ ?s0 ?s1) ?km ?k1 ?k2 ?k3 ?k4 ?k5 ?kK ?kd ?ku ?_; (case k1 => k_asm); (case k2 => k_asm); (case k3 => k_in); (case k4 => k_asm); (case k5 => k_asm); (case kK => first | exact rfl | assumption); (case km => (repeat' (first | exact List.forall_mem_nil _ | (refine List.forall_mem_cons.mpr (And.intro ?_ ?_)) | k_mem))); (case kd => first | (refine' rm1 ?rh ?re; (case rh => assumption); (case re => exact rfl)) | (refine' rm2 ?rh ?re; (case rh => assumption); (case re => exact rfl)) | (refine' rm3 ?rh ?re; (case rh => assumption); (case re => exact rfl)) | ktr_room); (case ku => first | (refine' un1 ?rh ?re; (case rh => assumption); (case re => exact rfl)) | (refine' un2 ?rh ?re; (case rh => assumption); (case re => exact rfl)) | (refine' un3 ?rh ?re; (case rh => assumption); (case re => exact rfl)) | ktr_units); (case s0 => first | assumption | (refine' Sm.le ?sh ?sk; (case sh => bits_by_make); (case sk => decide))); (case s1 => first | assumption | (refine' Sm.le ?sh ?sk; (case sh => bits_by_make); (case sk => decide))); intro D9 t9 u9 c9 h9 tk9 F9 N9 hl9; (first | ((with_reducible rename Mk => nsX); (have hl6 := allLt_tab hl9 (by k_mem)); simp only [AllLt, and_true] at hl9) | (with_reducible rename LCg.NsObj _ _ => nsX; simp only [AllLt, and_true] at hl9) | (have hl6 := allLt_tab hl9 (by k_mem); clear hl9)); (try dsimp only); (try k_sweep); (try k_fold)))
  k_with "own call" => (k_here; (with_reducible show wpAny _ _ (call (Value.ref 180) _) _ _ _); k_dflt (refine' use_rat (c_sum_m _ _ _ _ _ _ _ _ _ _ _ _ _ ?s0 ?s1) ?km ?k1 ?k2 ?k3 ?k4 ?k5 ?kK ?kd ?ku ?_; (case k1 => k_asm); (case k2 => k_asm); (case k3 => k_in); (case k4 => k_asm); (case k5 => k_asm); (case kK => first | exact rfl | assumption); (case km => (repeat' (first | exact List.forall_mem_nil _ | (refine List.forall_mem_cons.mpr (And.intro ?_ ?_)) | k_mem))); (case kd => first | (refine' rm1 ?rh ?re; (case rh => assumption); (case re => exact rfl)) | (refine' rm2 ?rh ?re; (case rh => assumption); (case re => exact rfl)) | (refine' rm3 ?rh ?re; (case rh => assumption); (case re => exact rfl)) | ktr_room); (case ku => first | (refine' un1 ?rh ?re; (case rh => assumption); (case re => exact rfl)) | (refine' un2 ?rh ?re; (case rh => assumption); (case re => exact rfl)) | (refine' un3 ?rh ?re; (case rh => assumption); (case re => exact rfl)) | ktr_units); (case s0 => first | assumption | (refine' Sm.le ?sh ?sk; (case sh => bits_by_make); (case sk => decide))); (case s1 => first | assumption | (refine' Sm.le ?sh ?sk; (case sh => bits_by_make); (case sk => decide))); intro D9 t9 u9 c9 h9 tk9 F9 N9 hl9; (first | ((with_reducible rename Mk => nsX); (have hl6 := allLt_tab hl9 (by k_mem)); simp only [AllLt, and_true] at hl9) | (with_reducible rename LCg.NsObj _ _ => nsX; simp only [AllLt, and_true] at hl9) | (have hl6 := allLt_tab hl9 (by k_mem); clear hl9)); (try dsimp only); (try k_sweep); (try k_fold)))
  k_with "own call" => (k_here; (with_reducible show wpAny _ _ (call (Value.ref 180) _) _ _ _); k_dflt (refine' use_rat (c_rest _ _ _ _ _ _ _ _ _ _ _ _ ?s0) ?km ?k1 ?k2 ?k3 ?k4 ?k5 ?kK ?kd ?ku ?_; (case k1 => k_asm); (case k2 => k_asm); (case k3 => k_in); (case k4 => k_asm); (case k5 => k_asm); (case kK => first | exact rfl | assumption); (case km => (repeat' (first | exact List.forall_mem_nil _ | (refine List.forall_mem_cons.mpr (And.intro ?_ ?_)) | k_mem))); (case kd => first | (refine' rm1 ?rh ?re; (case rh => assumption); (case re => exact rfl)) | (refine' rm2 ?rh ?re; (case rh => assumption); (case re => exact rfl)) | (refine' rm3 ?rh ?re; (case rh => assumption); (case re => exact rfl)) | ktr_room); (case ku => first | (refine' un1 ?rh ?re; (case rh => assumption); (case re => exact rfl)) | (refine' un2 ?rh ?re; (case rh => assumption); (case re => exact rfl)) | (refine' un3 ?rh ?re; (case rh => assumption); (case re => exact rfl)) | ktr_units); (case s0 => first | assumption | (refine' Sm.le ?sh ?sk; (case sh => bits_by_make); (case sk => decide))); intro D9 t9 u9 c9 h9 tk9 F9 N9 hl9; (first | ((with_reducible rename Mk => nsX); (have hl6 := allLt_tab hl9 (by k_mem)); simp only [AllLt, and_true] at hl9) | (with_reducible rename LCg.NsObj _ _ => nsX; simp only [AllLt, and_true] at hl9) | (have hl6 := allLt_tab hl9 (by k_mem); clear hl9)); (try dsimp only); (try k_sweep); (try k_fold)))
  k_with "own call" => (k_here; (with_reducible show wpAny _ _ (call (Value.ref 131) _) _ _ _); k_dflt (refine' use_pair (c_along _ _ _ _ _ _ _ _ _ _ _ _ _ _ _ _ _ _ _ _ _ _ _ _ _ _ _ _ _ _ _ ?s0 ?s1 ?s2 ?s3 ?s4) ?km ?k1 ?k2 ?k3 ?k4 ?k5 ?kK ?kd ?ku ?_; (case k1 => k_asm); (case k2 => k_asm); (case k3 => k_in); (case k4 => k_asm); (case k5 => k_asm); (case kK => first | exact rfl | assumption); (case km => (repeat' (first | exact List.forall_mem_nil _ | (refine List.forall_mem_cons.mpr (And.intro ?_ ?_)) | k_mem))); (case kd => first | (refine' rm1 ?rh ?re; (case rh => assumption); (case re => exact rfl)) | (refine' rm2 ?rh ?re; (case rh => assumption); (case re => exact rfl)) | (refine' rm3 ?rh ?re; (case rh => assumption); (case re => exact rfl)) | ktr_room); (case ku => first | (refine' un1 ?rh ?re; (case rh => assumption); (case re => exact rfl)) | (refine' un2 ?rh ?re; (case rh => assumption); (case re => exact rfl)) | (refine' un3 ?rh ?re; (case rh => assumption); (case re => exact rfl)) | ktr_units); (case s0 => first | assumption | (refine' Sm.le ?sh ?sk; (case sh => bits_by_make); (case sk => decide))); (case s1 => first | assumption | (refine' Sm.le ?sh ?sk; (case sh => bits_by_make); (case sk => decide))); (case s2 => first | assumption | (refine' Sm.le ?sh ?sk; (case sh => bits_by_make); (case sk => decide))); (case s3 => first | assumption | (refine' Sm.le ?sh ?sk; (case sh => bits_by_make); (case sk => decide))); (case s4 => first | assumption | (refine' Sm.le ?sh ?sk; (case sh => bits_by_make); (case sk => decide))); intro P9 D9 E9 t9 u9 c9 t8 u8 c8 c7 h9 tk9 F9 N9 hl9 hl8 hl7; (have hl6 := allLt_tab hl9 (by k_mem)); (have hl5 := allLt_tab hl8 (by k_mem)); (have hl4 := allLt_tab hl7 (by k_mem)); clear hl9 hl8 hl7; (try dsimp only); (try k_sweep); (try k_fold)))
  k_with "own call" => (k_here; (with_reducible show wpAny _ _ (call (Value.ref 138) _) _ _ _); k_dflt (refine' use_pair (c_middle _ _ _ _ _ _ _ _ _ _ _ _ _ _ _ _ _ _ _ _ _ _ _ _ _ _ ?s0 ?s1 ?s2 ?s3) ?km ?k1 ?k2 ?k3 ?k4 ?k5 ?kK ?kd ?ku ?_; (case k1 => k_asm); (case k2 => k_asm); (case k3 => k_in); (case k4 => k_asm); (case k5 => k_asm); (case kK => first | exact rfl | assumption); (case km => (repeat' (first | exact List.forall_mem_nil _ | (refine List.forall_mem_cons.mpr (And.intro ?_ ?_)) | k_mem))); (case kd => first | (refine' rm1 ?rh ?re; (case rh => assumption); (case re => exact rfl)) | (refine' rm2 ?rh ?re; (case rh => assumption); (case re => exact rfl)) | (refine' rm3 ?rh ?re; (case rh => assumption); (case re => exact rfl)) | ktr_room); (case ku => first | (refine' un1 ?rh ?re; (case rh => assumption); (case re => exact rfl)) | (refine' un2 ?rh ?re; (case rh => assumption); (case re => exact rfl)) | (refine' un3 ?rh ?re; (case rh => assumption); (case re => exact rfl)) | ktr_units); (case s0 => first | assumption | (refine' Sm.le ?sh ?sk; (case sh => bits_by_make); (case sk => decide))); (case s1 => first | assumption | (refine' Sm.le ?sh ?sk; (case sh => bits_by_make); (case sk => decide))); (case s2 => first | assumption | (refine' Sm.le ?sh ?sk; (case sh => bits_by_make); (case sk => decide))); (case s3 => first | assumption | (refine' Sm.le ?sh ?sk; (case sh => bits_by_make); (case sk => decide))); intro P9 D9 E9 t9 u9 c9 t8 u8 c8 c7 h9 tk9 F9 N9 hl9 hl8 hl7; (have hl6 := allLt_tab hl9 (by k_mem)); (have hl5 := allLt_tab hl8 (by k_mem)); (have hl4 := allLt_tab hl7 (by k_mem)); clear hl9 hl8 hl7; (try dsimp only); (try k_sweep); (try k_fold)))
  k_with "own call" => (k_here; (with_reducible show wpAny _ _ (call (Value.ref 103) _) _ _ _); k_dflt (refine' use_pair (c_moved _ _ _ _ _ _ _ _ _ _ _ _ _ _ _ _ _ _ _ _ _ _ _ _ _ _ ?s0 ?s1 ?s2 ?s3) ?km ?k1 ?k2 ?k3 ?k4 ?k5 ?kK ?kd ?ku ?_; (case k1 => k_asm); (case k2 => k_asm); (case k3 => k_in); (case k4 => k_asm); (case k5 => k_asm); (case kK => first | exact rfl | assumption); (case km => (repeat' (first | exact List.forall_mem_nil _ | (refine List.forall_mem_cons.mpr (And.intro ?_ ?_)) | k_mem))); (case kd => first | (refine' rm1 ?rh ?re; (case rh => assumption); (case re => exact rfl)) | (refine' rm2 ?rh ?re; (case rh => assumption); (case re => exact rfl)) | (refine' rm3 ?rh ?re; (case rh => assumption); (case re => exact rfl)) | ktr_room); (case ku => first | (refine' un1 ?rh ?re; (case rh => assumption); (case re => exact rfl)) | (refine' un2 ?rh ?re; (case rh => assumption); (case re => exact rfl)) | (refine' un3 ?rh ?re; (case rh => assumption); (case re => exact rfl)) | ktr_units); (case s0 => first | assumption | (refine' Sm.le ?sh ?sk; (case sh => bits_by_make); (case sk => decide))); (case s1 => first | assumption | (refine' Sm.le ?sh ?sk; (case sh => bits_by_make); (case sk => decide))); (case s2 => first | assumption | (refine' Sm.le ?sh ?sk; (case sh => bits_by_make); (case sk => decide))); (case s3 => first | assumption | (refine' Sm.le ?sh ?sk; (case sh => bits_by_make); (case sk => decide))); intro P9 D9 E9 t9 u9 c9 t8 u8 c8 c7 h9 tk9 F9 N9 hl9 hl8 hl7; (have hl6 := allLt_tab hl9 (by k_mem)); (have hl5 := allLt_tab hl8 (by k_mem)); (have hl4 := allLt_tab hl7 (by k_mem)); clear hl9 hl8 hl7; (try dsimp only); (try k_sweep); (try k_fold)))
  k_with "own call" => (k_here; (with_reducible show wpAny _ _ (call (Value.ref 110) _) _ _ _); k_dflt (refine' use_pair (c_between _ _ _ _ _ _ _ _ _ _ _ _ _ _ _ _ _ _ _ _ _ _ _ _ _ _ ?s0 ?s1 ?s2 ?s3) ?km ?k1 ?k2 ?k3 ?k4 ?k5 ?kK ?kd ?ku ?_; (case k1 => k_asm); (case k2 => k_asm); (case k3 => k_in); (case k4 => k_asm); (case k5 => k_asm); (case kK => first | exact rfl | assumption); (case km => (repeat' (first | exact List.forall_mem_nil _ | (refine List.forall_mem_cons.mpr (And.intro ?_ ?_)) | k_mem))); (case kd => first | (refine' rm1 ?rh ?re; (case rh => assumption); (case re => exact rfl)) | (refine' rm2 ?rh ?re; (case rh => assumption); (case re => exact rfl)) | (refine' rm3 ?rh ?re; (case rh => assumption); (case re => exact rfl)) | ktr_room); (case ku => first | (refine' un1 ?rh ?re; (case rh => assumption); (case re => exact rfl)) | (refine' un2 ?rh ?re; (case rh => assumption); (case re => exact rfl)) | (refine' un3 ?rh ?re; (case rh => assumption); (case re => exact rfl)) | ktr_units); (case s0 => first | assumption | (refine' Sm.le ?sh ?sk; (case sh => bits_by_make); (case sk => decide))); (case s1 => first | assumption | (refine' Sm.le ?sh ?sk; (case sh => bits_by_make); (case sk => decide))); (case s2 => first | assumption | (refine' Sm.le ?sh ?sk; (case sh => bits_by_make); (case sk => decide))); (case s3 => first | assumption | (refine' Sm.le ?sh ?sk; (case sh => bits_by_make); (case sk => decide))); intro P9 D9 E9 t9 u9 c9 t8 u8 c8 c7 h9 tk9 F9 N9 hl9 hl8 hl7; (have hl6 := allLt_tab hl9 (by k_mem)); (have hl5 := allLt_tab hl8 (by k_mem)); (have hl4 := allLt_tab hl7 (by k_mem)); clear hl9 hl8 hl7; (try dsimp only); (try k_sweep); (try k_fold)))
  k_with "own call" => (k_here; (with_reducible show wpAny _ _ (call (Value.ref 117) _) _ _ _); k_dflt (refine' use_pair (c_scaled _ _ _ _ _ _ _ _ _ _ _ _ _ _ _ _ _ _ _ ?s0 ?s1 ?s2) ?km ?k1 ?k2 ?k3 ?k4 ?k5 ?kK ?kd ?ku ?_; (case k1 => k_asm); (case k2 => k_asm); (case k3 => k_in); (case k4 => k_asm); (case k5 => k_asm); (case kK => first | exact rfl | assumption); (case km => (repeat' (first | exact List.forall_mem_nil _ | (refine List.forall_mem_cons.mpr (And.intro ?_ ?_)) | k_mem))); (case kd => first | (refine' rm1 ?rh ?re; (case rh => assumption); (case re => exact rfl)) | (refine' rm2 ?rh ?re; (case rh => assumption); (case re => exact rfl)) | (refine' rm3 ?rh ?re; (case rh => assumption); (case re => exact rfl)) | ktr_room); (case ku => first | (refine' un1 ?rh ?re; (case rh => assumption); (case re => exact rfl)) | (refine' un2 ?rh ?re; (case rh => assumption); (case re => exact rfl)) | (refine' un3 ?rh ?re; (case rh => assumption); (case re => exact rfl)) | ktr_units); (case s0 => first | assumption | (refine' Sm.le ?sh ?sk; (case sh => bits_by_make); (case sk => decide))); (case s1 => first | assumption | (refine' Sm.le ?sh ?sk; (case sh => bits_by_make); (case sk => decide))); (case s2 => first | assumption | (refine' Sm.le ?sh ?sk; (case sh => bits_by_make); (case sk => decide))); intro P9 D9 E9 t9 u9 c9 t8 u8 c8 c7 h9 tk9 F9 N9 hl9 hl8 hl7; (have hl6 := allLt_tab hl9 (by k_mem)); (have hl5 := allLt_tab hl8 (by k_mem)); (have hl4 := allLt_tab hl7 (by k_mem)); clear hl9 hl8 hl7; (try dsimp only); (try k_sweep); (try k_fold)))
  k_with "own call" => (k_here; (with_reducible show wpAny _ _ (call (Value.ref 124) _) _ _ _); k_dflt (refine' use_pair (c_opposite _ _ _ _ _ _ _ _ _ _ _ _ _ _ ?s0 ?s1) ?km ?k1 ?k2 ?k3 ?k4 ?k5 ?kK ?kd ?ku ?_; (case k1 => k_asm); (case k2 => k_asm); (case k3 => k_in); (case k4 => k_asm); (case k5 => k_asm); (case kK => first | exact rfl | assumption); (case km => (repeat' (first | exact List.forall_mem_nil _ | (refine List.forall_mem_cons.mpr (And.intro ?_ ?_)) | k_mem))); (case kd => first | (refine' rm1 ?rh ?re; (case rh => assumption); (case re => exact rfl)) | (refine' rm2 ?rh ?re; (case rh => assumption); (case re => exact rfl)) | (refine' rm3 ?rh ?re; (case rh => assumption); (case re => exact rfl)) | ktr_room); (case ku => first | (refine' un1 ?rh ?re; (case rh => assumption); (case re => exact rfl)) | (refine' un2 ?rh ?re; (case rh => assumption); (case re => exact rfl)) | (refine' un3 ?rh ?re; (case rh => assumption); (case re => exact rfl)) | ktr_units); (case s0 => first | assumption | (refine' Sm.le ?sh ?sk; (case sh => bits_by_make); (case sk => decide))); (case s1 => first | assumption | (refine' Sm.le ?sh ?sk; (case sh => bits_by_make); (case sk => decide))); intro P9 D9 E9 t9 u9 c9 t8 u8 c8 c7 h9 tk9 F9 N9 hl9 hl8 hl7; (have hl6 := allLt_tab hl9 (by k_mem)); (have hl5 := allLt_tab hl8 (by k_mem)); (have hl4 := allLt_tab hl7 (by k_mem)); clear hl9 hl8 hl7; (try dsimp only); (try k_sweep); (try k_fold)))
  k_with "own call" => (k_here; (with_reducible show wpAny _ _ (call (Value.ref 145) _) _ _ _); k_dflt (refine' use_rat (c_dot _ _ _ _ _ _ _ _ _ _ _ _ _ _ _ _ _ _ _ _ _ _ _ _ _ _ ?s0 ?s1 ?s2 ?s3) ?km ?k1 ?k2 ?k3 ?k4 ?k5 ?kK ?kd ?ku ?_; (case k1 => k_asm); (case k2 => k_asm); (case k3 => k_in); (case k4 => k_asm); (case k5 => k_asm); (case kK => first | exact rfl | assumption); (case km => (repeat' (first | exact List.forall_mem_nil _ | (refine List.forall_mem_cons.mpr (And.intro ?_ ?_)) | k_mem))); (case kd => first | (refine' rm1 ?rh ?re; (case rh => assumption); (case re => exact rfl)) | (refine' rm2 ?rh ?re; (case rh => assumption); (case re => exact rfl)) | (refine' rm3 ?rh ?re; (case rh => assumption); (case re => exact rfl)) | ktr_room); (case ku => first | (refine' un1 ?rh ?re; (case rh => assumption); (case re => exact rfl)) | (refine' un2 ?rh ?re; (case rh => assumption); (case re => exact rfl)) | (refine' un3 ?rh ?re; (case rh => assumption); (case re => exact rfl)) | ktr_units); (case s0 => first | assumption | (refine' Sm.le ?sh ?sk; (case sh => bits_by_make); (case sk => decide))); (case s1 => first | assumption | (refine' Sm.le ?sh ?sk; (case sh => bits_by_make); (case sk => decide))); (case s2 => first | assumption | (refine' Sm.le ?sh ?sk; (case sh => bits_by_make); (case sk => decide))); (case s3 => first | assumption | (refine' Sm.le ?sh ?sk; (case sh => bits_by_make); (case sk => decide))); intro D9 t9 u9 c9 h9 tk9 F9 N9 hl9; (first | ((with_reducible rename Mk => nsX); (have hl6 := allLt_tab hl9 (by k_mem)); simp only [AllLt, and_true] at hl9) | (with_reducible rename LCg.NsObj _ _ => nsX; simp only [AllLt, and_true] at hl9) | (have hl6 := allLt_tab hl9 (by k_mem); clear hl9)); (try dsimp only); (try k_sweep); (try k_fold)))
  k_with "own call" => (k_here; (with_reducible show wpAny _ _ (call (Value.ref 152) _) _ _ _); k_dflt (refine' use_rat (c_cross _ _ _ _ _ _ _ _ _ _ _ _ _ _ _ _ _ _ _ _ _ _ _ _ _ _ ?s0 ?s1 ?s2 ?s3) ?km ?k1 ?k2 ?k3 ?k4 ?k5 ?kK ?kd ?ku ?_; (case k1 => k_asm); (case k2 => k_asm); (case k3 => k_in); (case k4 => k_asm); (case k5 => k_asm); (case kK => first | exact rfl | assumption); (case km => (repeat' (first | exact List.forall_mem_nil _ | (refine List.forall_mem_cons.mpr (And.intro ?_ ?_)) | k_mem))); (case kd => first | (refine' rm1 ?rh ?re; (case rh => assumption); (case re => exact rfl)) | (refine' rm2 ?rh ?re; (case rh => assumption); (case re => exact rfl)) | (refine' rm3 ?rh ?re; (case rh => assumption); (case re => exact rfl)) | ktr_room); (case ku => first | (refine' un1 ?rh ?re; (case rh => assumption); (case re => exact rfl)) | (refine' un2 ?rh ?re; (case rh => assumption); (case re => exact rfl)) | (refine' un3 ?rh ?re; (case rh => assumption); (case re => exact rfl)) | ktr_units); (case s0 => first | assumption | (refine' Sm.le ?sh ?sk; (case sh => bits_by_make); (case sk => decide))); (case s1 => first | assumption | (refine' Sm.le ?sh ?sk; (case sh => bits_by_make); (case sk => decide))); (case s2 => first | assumption | (refine' Sm.le ?sh ?sk; (case sh => bits_by_make); (case sk => decide))); (case s3 => first | assumption | (refine' Sm.le ?sh ?sk; (case sh => bits_by_make); (case sk => decide))); intro D9 t9 u9 c9 h9 tk9 F9 N9 hl9; (first | ((with_reducible rename Mk => nsX); (have hl6 := allLt_tab hl9 (by k_mem)); simp only [AllLt, and_true] at hl9) | (with_reducible rename LCg.NsObj _ _ => nsX; simp only [AllLt, and_true] at hl9) | (have hl6 := allLt_tab hl9 (by k_mem); clear hl9)); (try dsimp only); (try k_sweep); (try k_fold)))
  exact True.intro
set_option maxRecDepth 100000 in
set_option maxHeartbeats 8000000 in
theorem c_right (w : World) (P P1 P2 : Addr) (p1 p2 : Rat) (tp1 up1 tp2 up2 : Tok) (cp cp1 cp2 : Nat) (R R1 R2 : Addr) (q1 q2 : Rat) (tq1 uq1 tq2 uq2 : Tok) (cq cq1 cq2 : Nat) (V V1 V2 : Addr) (v1 v2 : Rat) (tv1 uv1 tv2 uv2 : Tok) (cv cv1 cv2 : Nat) (F : Addr) (f : Rat) (tf uf : Tok) (cf : Nat) (hp1 : Sm 64 p1) (hp2 : Sm 64 p2) (hq1 : Sm 64 q1) (hq2 : Sm 64 q2) (hv1 : Sm 64 v1) (hv2 : Sm 64 v2) (hf : Sm 64 f) (gP : @LT.lt Nat _ 210 P) (gP1 : @LT.lt Nat _ 210 P1) (gP2 : @LT.lt Nat _ 210 P2) (gR : @LT.lt Nat _ 210 R) (gR1 : @LT.lt Nat _ 210 R1) (gR2 : @LT.lt Nat _ 210 R2) (gV : @LT.lt Nat _ 210 V) (gV1 : @LT.lt Nat _ 210 V1) (gV2 : @LT.lt Nat _ 210 V2) (gF : @LT.lt Nat _ 210 F) (mean : ExcName → Option Value) (mg mb : Str → Option Value) (dp un : Nat) (gd : Option (List Code)) (cn : Str) (cs : Scope) (a9 : Addr) (ccd : Value) (cl : List (Str × Addr)) (outer : List Env) (A₀ : Around) (base h₀ : Heap) (L : Addr) (m : Str → Option Value) (s : Shared) (Q E : Value → Shared → Prop)
    (B9 : Below A₀ base outer h₀) (C9 : CodeHd base 212 210) (F9 : Fr h₀ L s.heap m) (X9 : (hd.heap_39 w.params).In h₀) (N9 : News h₀ L s.heap [(P, tup2 (.ref P1) (.ref P2) cp), (P1, ratObj p1 tp1 up1 cp1), (P2, ratObj p2 tp2 up2 cp2), (R, tup2 (.ref R1) (.ref R2) cq), (R1, ratObj q1 tq1 uq1 cq1), (R2, ratObj q2 tq2 uq2 cq2), (V, tup2 (.ref V1) (.ref V2) cv), (V1, ratObj v1 tv1 uv1 cv1), (V2, ratObj v2 tv2 uv2 cv2), (F, ratObj f tf uf cf), (210, tabObj #[])]) (T9 : Top topProg LO mean mg mb h₀) (hk9 : cs.kind = .function) (hdp : dp + 9 < recursionLimit) (hun : un + 8 * 20 < cLine)
    (hret : ∀ ps h' tk', Fr h₀ L h' m → News h₀ L h' [(210, tabObj ps)] → Q (.bool true) { s with heap := h', toks := tk' }) :
    wpAny (model PySem.Challenge.rw_xm0691_01.row.prog w) (ktrTop dp un gd cn cs L a9 ccd cl outer) (call (.ref 213) [.ref P, .ref R, .ref V, .ref F]) Q E s := by
  w_on
  refine wpAny_call ?_
  k_dflt (refine' code_defC ?k1 ?k2 ?k3 ?k4 ?k5 ?kA ?kF ?kK ?k6 ?k7 ?k8 ?k9 ?kB ?kD ?_ ?c2 ?c3 ?c4; (case kA => exact rfl); (case kF => exact rfl); (case kK => assumption); (case k1 => k_asm); (case k2 => k_asm); (case k3 => k_asm); (case k4 => k_asm); (case k5 => k_asm); (case k6 => k_is); (case k7 => k_is); (case k8 => ktr_room); (case k9 => exact BindsTo.of_eq rfl); (case kB => exact rfl); (case kD => decide +kernel); (case c2 => exact rfl); (case c3 => exact rfl); (case c4 => exact rfl); k_whole; intro g' L' h' tk' cells' FG' F' N' Y' B' X' T' l1; (try k_lt l1); k_cells Y'; (try simp only [List.cons_append, List.nil_append] at N'); (try dsimp only); (try k_lift B'); (try k_fold))
  have hL9 : @LT.lt Nat _ 210 L' := by omega
  have hMk : Mk := True.intro
  w_strict (k_steps)
  exact hret _ _ _ (by k_asm) (cb_drop (by k_asm) (List.forall_mem_cons.mpr (And.intro (by k_mem) (List.forall_mem_nil _))))
end Mine
namespace Mine
theorem neg2_num : (-2 : Rat).num = -2 := rfl
theorem neg2_den : ((-2 : Rat).den : Int) = 1 := rfl
def PoolQ (h₀ : Heap) (L : Addr) (m : Str → Option Value) (news : List (Addr × Obj)) (s : Shared) (v : Value) (s' : Shared) : Prop :=
  ∃ (S : Addr) (a b : Int) (ta tb : Tok) (n : Nat) (h : Heap) (tk : Nat), v = .ref S ∧ s' = { s with heap := h, toks := tk } ∧ Fr h₀ L h m ∧ News h₀ L h ((S, listOf #[.int a ta, .int b tb] n) :: news) ∧ AllLt S news ∧ 0 ≤ b ∧ b < 2147483648
theorem pool_cut {M : Model} {A : Around} {E : Value → Shared → Prop} {Q : Value → Shared → Prop} {s : Shared} {h₀ : Heap} {L : Addr} {m : Str → Option Value} {news : List (Addr × Obj)} {cm : Sem Value}
    (_F : Fr h₀ L s.heap m) (_N : News h₀ L s.heap news) (hc : wpAny M A cm (PoolQ h₀ L m news s) E s)
    (hk : ∀ (S : Addr) (a b : Int) (ta tb : Tok) (n : Nat) (h : Heap) (tk : Nat), Fr h₀ L h m → News h₀ L h ((S, listOf #[.int a ta, .int b tb] n) :: news) → AllLt S news → 0 ≤ b → b < 2147483648 → Q (.ref S) { s with heap := h, toks := tk }) : wpAny M A cm Q E s := by
  refine wpAny_mono hc (fun v s₂ hq => ?_) fun _ _ h => h
  obtain ⟨S, a, b, ta, tb, n, h, tk, rfl, rfl, F, N, hl, h0, h1⟩ := hq
  exact hk S a b ta tb n h tk F N hl h0 h1
theorem pool_end {h₀ : Heap} {L : Addr} {m : Str → Option Value} {news nw : List (Addr × Obj)} {s : Shared} {S : Addr} {a b : Int} {ta tb : Tok} {n : Nat} {h' : Heap} {tk' : Nat} (F : Fr h₀ L h' m) (N : News h₀ L h' nw) (hm : (S, listOf #[.int a ta, .int b tb] n) ∈ nw) (hs : ∀ p ∈ news, p ∈ nw) (hl : AllLt S news) (h0 : 0 ≤ b) (h1 : b < 2147483648) :
    PoolQ h₀ L m news s (.ref S) { s with heap := h', toks := tk' } := by
  refine ⟨S, a, b, ta, tb, n, h', tk', rfl, rfl, F, fun p hp => ?_, hl, h0, h1⟩
  rcases List.mem_cons.mp hp with rfl | hp
  · exact N _ hm
  · exact N p (hs p hp)
theorem fmod_lt31 (x : Int) : x.fmod 2147483647 < 2147483648 := Int.lt_trans (Int.fmod_lt_of_pos x (b := 2147483647) (by decide)) (by decide)
theorem fmod_ge31 (x : Int) : 0 ≤ x.fmod 2147483647 := Int.fmod_nonneg_of_pos x (by decide)
theorem c_cross_lit (w : World) (news : List (Addr × Obj)) (P P1 P2 : Addr) (tp1 up1 tp2 up2 : Tok) (cp cp1 cp2 : Nat) (R R1 R2 : Addr) (tq1 uq1 tq2 uq2 : Tok) (cq cq1 cq2 : Nat) : Ct w 152 5 ([(P, tup2 (.ref P1) (.ref P2) cp), (P1, tup2 (.int 1 tp1) (.int 1 up1) cp1), (P2, tup2 (.int 2 tp2) (.int 1 up2) cp2), (R, tup2 (.ref R1) (.ref R2) cq), (R1, tup2 (.int 3 tq1) (.int 1 uq1) cq1), (R2, tup2 (.int 4 tq2) (.int 1 uq2) cq2)] ++ news) [.ref P, .ref R] (RatBack ([(P, tup2 (.ref P1) (.ref P2) cp), (P1, tup2 (.int 1 tp1) (.int 1 up1) cp1), (P2, tup2 (.int 2 tp2) (.int 1 up2) cp2), (R, tup2 (.ref R1) (.ref R2) cq), (R1, tup2 (.int 3 tq1) (.int 1 uq1) cq1), (R2, tup2 (.int 4 tq2) (.int 1 uq2) cq2)] ++ news) (-2)) := by
  have h := c_cross w news P P1 P2 1 2 tp1 up1 tp2 up2 cp cp1 cp2 R R1 R2 3 4 tq1 uq1 tq2 uq2 cq cq1 cq2 ⟨by decide, by decide⟩ ⟨by decide, by decide⟩ ⟨by decide, by decide⟩ ⟨by decide, by decide⟩
  rw [show (1 * 4 - 2 * 3 : Rat) = -2 by grind] at h
  exact h
local macro_rules | `(tactic| k_room) => `(tactic| ktr_room)
local macro_rules | `(tactic| bits_by_make) => `(tactic| first | exact sm_num (by with_reducible assumption) | exact sm_den (by with_reducible assumption) | with_reducible assumption)
local macro_rules | `(tactic| bits_by_make) => `(tactic| first | with_reducible assumption | ((with_reducible apply sm_addw) <;> bits_by_make) | ((with_reducible apply sm_add) <;> bits_by_make) | ((with_reducible apply sm_sub) <;> bits_by_make) | ((with_reducible apply sm_mul) <;> bits_by_make) | exact sm_one | exact sm_half)
local macro_rules | `(tactic| k_ne) => `(tactic| (refine neN ?_; (try dsimp only); first | with_reducible assumption | exact Nat.ne_of_gt (by with_reducible assumption) | exact Nat.ne_of_lt (by with_reducible assumption)))
theorem allLt_lst {D S : Addr} {l : List (Addr × Obj)} {its : Array Value} {n : Nat} (h : AllLt D l) (hm : (S, listOf its n) ∈ l) : @LT.lt Nat _ S D := allLt_mem h _ hm
theorem codeHd_of {h : Heap} (x : CodeHd h (212, 210).fst (212, 210).snd) : CodeHd h 212 210 := x
local macro_rules | `(tactic| walk_at "execs cons") => `(tactic| k_extra "own execs cons")
local macro_rules | `(tactic| walk_at "call ref") => `(tactic| k_extra "own call")
theorem rows8 : True := by
  k_with_none
  k_with "own execs cons" => ((with_reducible show wpAny _ _ (execs (PySem.Stmt.Assign [PySem.Expr.Name (PySem.Str.ofString "source") _] _ _ :: _) _) _ _ _); k_dflt ((rename News _ _ _ _ => nP); (have nQ := news_pick 0 0 0 1 nP); (clear nP); (simp only [picked, List.length_cons, List.length_nil, Nat.reduceAdd, Nat.reduceSub, List.drop_succ_cons, List.drop_zero, List.take_succ_cons, List.take_zero, List.cons_append, List.nil_append] at nQ); (repeat (with_reducible rename (_ ∧ _) => l9; clear l9)); (try dsimp only); refine wpAny_execs_cons ?_))
  k_with "own execs cons" => ((with_reducible show wpAny _ _ (execs (PySem.Stmt.If _ _ _ _ :: PySem.Stmt.Return (some (PySem.Expr.Call (PySem.Expr.Name (PySem.Str.ofString "_law_right") _) _ _ _)) _ :: _) _) _ _ _); k_dflt ((rename News _ _ _ _ => nP); (have nQ := news_pick 0 0 0 2 nP); (clear nP); (simp only [picked, List.length_cons, List.length_nil, Nat.reduceAdd, Nat.reduceSub, List.drop_succ_cons, List.drop_zero, List.take_succ_cons, List.take_zero, List.cons_append, List.nil_append] at nQ); (repeat (with_reducible rename (_ ∧ _) => l9; clear l9)); (try dsimp only); refine wpAny_execs_cons ?_))
  k_with "own execs cons" => ((with_reducible show wpAny _ _ (execs (PySem.Stmt.Return (some (PySem.Expr.Call (PySem.Expr.Name (PySem.Str.ofString "_law_right") _) _ _ _)) _ :: _) _) _ _ _); k_dflt ((rename News _ _ _ _ => nP); (have nQ := news_pick 0 0 0 2 nP); (clear nP); (simp only [picked, List.length_cons, List.length_nil, Nat.reduceAdd, Nat.reduceSub, List.drop_succ_cons, List.drop_zero, List.take_succ_cons, List.take_zero, List.cons_append, List.nil_append] at nQ); (repeat (with_reducible rename (_ ∧ _) => l9; clear l9)); (try dsimp only); refine wpAny_execs_cons ?_))
  k_with "own call" => (k_here; (with_reducible show wpAny _ _ (call (Value.ref 152) _) _ _ _); k_dflt (refine' use_rat (c_cross_lit _ _ _ _ _ _ _ _ _ _ _ _ _ _ _ _ _ _ _ _ _ _) ?km ?k1 ?k2 ?k3 ?k4 ?k5 ?kK ?kd ?ku ?_; (case k1 => k_asm); (case k2 => k_asm); (case k3 => k_in); (case k4 => k_asm); (case k5 => k_asm); (case kK => first | exact rfl | assumption); (case km => (repeat' (first | exact List.forall_mem_nil _ | (refine List.forall_mem_cons.mpr (And.intro ?_ ?_)) | k_mem))); (case kd => first | (refine' rm1 ?rh ?re; (case rh => assumption); (case re => exact rfl)) | (refine' rm2 ?rh ?re; (case rh => assumption); (case re => exact rfl)) | (refine' rm3 ?rh ?re; (case rh => assumption); (case re => exact rfl)) | ktr_room); (case ku => first | (refine' un1 ?rh ?re; (case rh => assumption); (case re => exact rfl)) | (refine' un2 ?rh ?re; (case rh => assumption); (case re => exact rfl)) | (refine' un3 ?rh ?re; (case rh => assumption); (case re => exact rfl)) | ktr_units); intro D9 t9 u9 c9 h9 tk9 F9 N9 hl9; (try simp only [AllLt, and_true] at hl9); (simp only [ratObj, neg2_num, neg2_den] at N9); (try dsimp only); (try k_sweep); (try k_fold)))
  k_with "own call" => (k_here; (with_reducible show wpAny _ _ (call (Value.ref 152) _) _ _ _); k_dflt (refine' use_rat (c_cross _ _ _ _ _ _ _ _ _ _ _ _ _ _ _ _ _ _ _ _ _ _ _ _ _ _ ?s0 ?s1 ?s2 ?s3) ?km ?k1 ?k2 ?k3 ?k4 ?k5 ?kK ?kd ?ku ?_; (case k1 => k_asm); (case k2 => k_asm); (case k3 => k_in); (case k4 => k_asm); (case k5 => k_asm); (case kK => first | exact rfl | assumption); (case km => (repeat' (first | exact List.forall_mem_nil _ | (refine List.forall_mem_cons.mpr (And.intro ?_ ?_)) | k_mem))); (case kd => first | (refine' rm1 ?rh ?re; (case rh => assumption); (case re => exact rfl)) | (refine' rm2 ?rh ?re; (case rh => assumption); (case re => exact rfl)) | (refine' rm3 ?rh ?re; (case rh => assumption); (case re => exact rfl)) | ktr_room); (case ku => first | (refine' un1 ?rh ?re; (case rh => assumption); (case re => exact rfl)) | (refine' un2 ?rh ?re; (case rh => assumption); (case re => exact rfl)) | (refine' un3 ?rh ?re; (case rh => assumption); (case re => exact rfl)) | ktr_units); (case s0 => first | assumption | (refine' Sm.le ?sh ?sk; (case sh => bits_by_make); (case sk => decide))); (case s1 => first | assumption | (refine' Sm.le ?sh ?sk; (case sh => bits_by_make); (case sk => decide))); (case s2 => first | assumption | (refine' Sm.le ?sh ?sk; (case sh => bits_by_make); (case sk => decide))); (case s3 => first | assumption | (refine' Sm.le ?sh ?sk; (case sh => bits_by_make); (case sk => decide))); intro D9 t9 u9 c9 h9 tk9 F9 N9 hl9; (try simp only [AllLt, and_true] at hl9); (try dsimp only); (try k_sweep); (try k_fold)))
  k_with "own call" => (k_here; (with_reducible show wpAny _ _ (call (Value.ref 166) _) _ _ _); k_dflt (refine' use_take ?U ?s0 ?s1 ?s2 ?s3 ?k1 ?k2 ?k3 ?k4 ?k5 ?kK ?kd ?ku ?_; (case k1 => k_asm); (case k2 => k_asm); (case k3 => k_in); (case k4 => k_asm); (case U => k_updF); (case k5 => k_asm); (case kK => first | exact rfl | assumption); (case kd => first | (refine' rm1 ?rh ?re; (case rh => assumption); (case re => exact rfl)) | (refine' rm2 ?rh ?re; (case rh => assumption); (case re => exact rfl)) | (refine' rm3 ?rh ?re; (case rh => assumption); (case re => exact rfl)) | ktr_room); (case ku => first | (refine' un1 ?rh ?re; (case rh => assumption); (case re => exact rfl)) | (refine' un2 ?rh ?re; (case rh => assumption); (case re => exact rfl)) | (refine' un3 ?rh ?re; (case rh => assumption); (case re => exact rfl)) | ktr_units); (case s0 => first | assumption | omega); (case s1 => first | assumption | omega); (case s2 => first | decide | omega); (case s3 => first | decide | omega); intro r9 f9 o9 h9 tk9 F9 N9 R9 hl9; obtain ⟨x9, t9, a9, ta9, b9, tb9, n9, e9, e8, e7, hx0, hx1, hb0, hb1⟩ := R9; subst e9; subst e8; subst e7; (try simp only [Int.reduceToNat, Int.reducePow] at hx1); (clear hl9); (try simp only [List.cons_append, List.nil_append] at N9); (try dsimp only); (try k_sweep); (try k_fold)))
  k_with "own call" => (k_here; (with_reducible show wpAny _ _ (call (Value.ref 194) _) _ _ _); k_dflt (refine' use_number ?U ?s0 ?s1 ?k1 ?k2 ?k3 ?k4 ?k5 ?kK ?kd ?ku ?_; (case k1 => k_asm); (case k2 => k_asm); (case k3 => k_in); (case k4 => k_asm); (case U => k_updF); (case k5 => k_asm); (case kK => first | exact rfl | assumption); (case kd => first | (refine' rm1 ?rh ?re; (case rh => assumption); (case re => exact rfl)) | (refine' rm2 ?rh ?re; (case rh => assumption); (case re => exact rfl)) | (refine' rm3 ?rh ?re; (case rh => assumption); (case re => exact rfl)) | ktr_room); (case ku => first | (refine' un1 ?rh ?re; (case rh => assumption); (case re => exact rfl)) | (refine' un2 ?rh ?re; (case rh => assumption); (case re => exact rfl)) | (refine' un3 ?rh ?re; (case rh => assumption); (case re => exact rfl)) | ktr_units); (case s0 => first | assumption | omega); (case s1 => first | assumption | omega); intro r9 f9 o9 h9 tk9 F9 N9 R9 hl9; obtain ⟨D9, q9, t9, u9, c9, a9, ta9, b9, tb9, n9, e9, e8, e7, hq9, hb0, hb1⟩ := R9; subst e9; subst e8; subst e7; (try simp only [Int.reduceToNat, Int.reducePow] at hx1);  (have gD9 : AllLt D9 _ := hl9 _ (.head _)); (have sD9 := allLt_lst gD9 (by k_mem)); (have qD9 := allLt_tab gD9 (by k_mem)); (clear gD9); (clear hl9); (try simp only [List.cons_append, List.nil_append] at N9); (try dsimp only); (try k_sweep); (try k_fold)))
  k_with "own call" => (k_here; (with_reducible show wpAny _ _ (call (Value.ref 201) _) _ _ _); k_dflt (refine' use_npair ?U ?s0 ?s1 ?k1 ?k2 ?k3 ?k4 ?k5 ?kK ?kd ?ku ?_; (case k1 => k_asm); (case k2 => k_asm); (case k3 => k_in); (case k4 => k_asm); (case U => k_updF); (case k5 => k_asm); (case kK => first | exact rfl | assumption); (case kd => first | (refine' rm1 ?rh ?re; (case rh => assumption); (case re => exact rfl)) | (refine' rm2 ?rh ?re; (case rh => assumption); (case re => exact rfl)) | (refine' rm3 ?rh ?re; (case rh => assumption); (case re => exact rfl)) | ktr_room); (case ku => first | (refine' un1 ?rh ?re; (case rh => assumption); (case re => exact rfl)) | (refine' un2 ?rh ?re; (case rh => assumption); (case re => exact rfl)) | (refine' un3 ?rh ?re; (case rh => assumption); (case re => exact rfl)) | ktr_units); (case s0 => first | assumption | omega); (case s1 => first | assumption | omega); intro v9 f9 o9 h9 tk9 F9 N9 R9 hl9; obtain ⟨P9, D9, E9, q9, r9, t9, u9, t8, u8, c9, c8, c7, a9, ta9, b9, tb9, n9, e9, e8, e7, hq9, hr9, hb0, hb1⟩ := R9; subst e9; subst e8; subst e7; (try simp only [Int.reduceToNat, Int.reducePow] at hx1);  (have gP9 : AllLt P9 _ := hl9 _ (.head _)); (have sP9 := allLt_lst gP9 (by k_mem)); (have qP9 := allLt_tab gP9 (by k_mem)); (clear gP9); (have gD9 : AllLt D9 _ := hl9 _ (.tail _ (.head _))); (have sD9 := allLt_lst gD9 (by k_mem)); (have qD9 := allLt_tab gD9 (by k_mem)); (clear gD9); (have gE9 : AllLt E9 _ := hl9 _ (.tail _ (.tail _ (.head _)))); (have sE9 := allLt_lst gE9 (by k_mem)); (have qE9 := allLt_tab gE9 (by k_mem)); (clear gE9); (clear hl9); (try simp only [List.cons_append, List.nil_append] at N9); (try dsimp only); (try k_sweep); (try k_fold)))
  k_with "own call" => (k_here; (with_reducible show wpAny _ _ (call (Value.ref 159) _) _ _ _); (rename Fr _ _ _ _ => cF'); (rename News _ _ _ _ => cN'); k_dflt (refine' pool_cut cF' cN' ?zzhc ?zzhk; (case' zzhc => (refine wpAny_call ?_; k_enter)); (case' zzhk => (intro S9 a9 b9 ta9 tb9 n9 h9 tk9 F9 N9 hl9 hb0 hb1; (try simp only [AllLt, and_true] at hl9); clear cF' cN'; (try dsimp only); (try k_fold)))))
  k_with "own call" => (k_here; (with_reducible show wpAny _ _ (call (Value.ref 213) _) _ _ _); k_dflt (refine' c_right _ _ _ _ _ _ _ _ _ _ _ _ _ _ _ _ _ _ _ _ _ _ _ _ _ _ _ _ _ _ _ _ _ _ _ _ _ _ _ _ _ _ ?zzs0 ?zzs1 ?zzs2 ?zzs3 ?zzs4 ?zzs5 ?zzs6 ?zzg0 ?zzg1 ?zzg2 ?zzg3 ?zzg4 ?zzg5 ?zzg6 ?zzg7 ?zzg8 ?zzg9 _ _ _ _ _ _ _ _ _ _ _ _ _ _ _ _ _ _ _ _ ?zzk1 ?zzkc ?zzk2 ?zzk3 (cb_drop ?zzk4 ?zzkm) ?zzk5 ?zzkK ?zzkd ?zzku ?_; (case zzk1 => k_asm); (case zzkc => first | assumption | exact codeHd_of (by assumption)); (case zzk2 => k_asm); (case zzk3 => k_in); (case zzk4 => k_asm); (case zzk5 => k_asm); (case zzkK => first | exact rfl | assumption); (case zzkm => (repeat' (first | exact List.forall_mem_nil _ | (refine List.forall_mem_cons.mpr (And.intro ?_ ?_)) | k_mem))); (case zzkd => first | (refine' rm1 ?zzrh ?zzre; (case zzrh => assumption); (case zzre => exact rfl)) | (refine' rm2 ?zzrh ?zzre; (case zzrh => assumption); (case zzre => exact rfl)) | (refine' rm3 ?zzrh ?zzre; (case zzrh => assumption); (case zzre => exact rfl)) | ktr_room); (case zzku => first | (refine' un1 ?zzrh ?zzre; (case zzrh => assumption); (case zzre => exact rfl)) | (refine' un2 ?zzrh ?zzre; (case zzrh => assumption); (case zzre => exact rfl)) | (refine' un3 ?zzrh ?zzre; (case zzrh => assumption); (case zzre => exact rfl)) | ktr_units); (case zzs0 => assumption); (case zzs1 => assumption); (case zzs2 => assumption); (case zzs3 => assumption); (case zzs4 => assumption); (case zzs5 => assumption); (case zzs6 => assumption); (case zzg0 => first | with_reducible assumption | omega); (case zzg1 => first | with_reducible assumption | omega); (case zzg2 => first | with_reducible assumption | omega); (case zzg3 => first | with_reducible assumption | omega); (case zzg4 => first | with_reducible assumption | omega); (case zzg5 => first | with_reducible assumption | omega); (case zzg6 => first | with_reducible assumption | omega); (case zzg7 => first | with_reducible assumption | omega); (case zzg8 => first | with_reducible assumption | omega); (case zzg9 => first | with_reducible assumption | omega); intro ps9 h9 tk9 F9 N9; (try dsimp only); (try k_sweep); (try k_fold)))
  exact True.intro
set_option maxRecDepth 100000 in
set_option maxHeartbeats 8000000 in
theorem main : PySem.Challenge.rw_xm0691_01.Holds := hd (by
  w_strict (k_go0; (all_goals try k_fold); k_steps)
  all_goals (refine' pool_end ?kF ?kN ?km ?ks ?kl ?kh0 ?kh1; (case kF => k_asm); (case kN => k_asm); (case km => k_mem); (case ks => kcj_all); (case kl => kcu_lt); (case kh0 => exact fmod_ge31 _); (case kh1 => exact fmod_lt31 _)))
end Mine
set_option maxRecDepth 100000 in
set_option maxHeartbeats 8000000 in
theorem PySem.Challenge.cw_xm0691_01_holds : PySem.Challenge.rw_xm0691_01.Holds := by
  exact Mine.main
