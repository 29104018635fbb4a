import PyProof.Rows.All
import Wide.All
import OpenK.AllK
import Wide.FinOn
import Lean
import PySem.Challenge.RW_nu0131_01
open PySem PySem.W PyProof.Rows
set_option maxHeartbeats 4000000
set_option Elab.async false
set_option maxRecDepth 100000
set_option linter.unusedVariables false
set_option genInjectivity false
set_option genSizeOfSpec false
namespace Mine
local macro_rules | `(tactic| o_head $t) => `(tactic| assumption)
theorem hk (h : PySem.Challenge.rw_nu0131_01.row.Holds) : PySem.Challenge.rw_nu0131_01.row.Holds := by k_head
local macro_rules | `(tactic| walk_at $s:str) => `(tactic| k_extra $s)
local macro_rules | `(tactic| k_mem) => `(tactic| k_extra "k_mem")
local macro_rules | `(tactic| kba_in) => `(tactic| k_extra "kba_in")
local macro_rules | `(tactic| kba_size) => `(tactic| k_extra "kba_size")
local macro_rules | `(tactic| k_all) => `(tactic| k_extra "k_all")
local macro_rules | `(tactic| size_fits) => `(tactic| k_extra "size_fits")
local macro_rules | `(tactic| k_upd) => `(tactic| k_extra "k_upd")
local macro_rules | `(tactic| k_ne) => `(tactic| k_extra "k_ne")
local macro_rules | `(tactic| ktr_units) => `(tactic| k_extra "ktr_units")
/-! arithmetic, each fact by short steps: a fact found by a decision procedure takes five to ten times the room -/
theorem toNat_s {a : Int} {k : Nat} (h : 0 ≤ a) : (a + (k : Int)).toNat = a.toNat + k := Int.toNat_add h (Int.natCast_nonneg k)
theorem toNat_1 {a : Int} (h : 0 ≤ a) : (a + 1).toNat = a.toNat + 1 := toNat_s (k := 1) h
theorem toNat_2 {a : Int} (h : 0 ≤ a) : (a + 2).toNat = a.toNat + 2 := toNat_s (k := 2) h
theorem tn_m2 (n : Nat) : (0 + (n : Int) * 2).toNat = 2 * n := (congrArg Int.toNat (Int.zero_add ((n * 2 : Nat) : Int))).trans (Nat.mul_comm n 2)
theorem tn_m2s (n : Nat) : (0 + (n : Int) * 2 + 1).toNat = 2 * n + 1 := (congrArg (fun z : Int => (z + 1).toNat) (Int.zero_add ((n * 2 : Nat) : Int))).trans (congrArg (· + 1) (Nat.mul_comm n 2))
theorem tn_m1 (a n : Nat) : ((a : Int) + (n : Int) * 1).toNat = a + n := congrArg (fun z : Int => ((a : Int) + z).toNat) (Int.mul_one (n : Int))
theorem tn_span (a m : Nat) : ((a : Int) + m - a).toNat = m := (Int.toNat_sub (a + m) a).trans (Nat.add_sub_cancel_left ..)
theorem tn_43 (n : Nat) : (4 + 4 * (n : Int) - 3).toNat = 1 + 4 * n := (Int.toNat_sub (4 + 4 * n) 3).trans ((congrArg (· - 3) (Nat.add_assoc 3 1 (4 * n))).trans (Nat.add_sub_cancel_left ..))
theorem tn_lt {d : Int} {n : Nat} (h0 : 0 ≤ d) (h : d < n) : d.toNat < n := (Int.toNat_lt h0).mpr h
theorem dec9 {n i : Nat} (h : i < n) : n + 1 - (i + 1) < n + 1 - i := Nat.sub_lt_sub_left (Nat.lt_succ_of_lt h) (Nat.lt_succ_self i)
theorem dec4 {j : Nat} (h : j ≤ 3) : 4 - (j + 1) < 4 - j := Nat.sub_lt_sub_left (Nat.lt_succ_of_le h) (Nat.lt_succ_self j)
theorem by16 {n : Int} (h0 : 0 ≤ n) (h1 : n < 65536) : n / 256 % 256 * 256 + n % 256 = n :=
  (congrArg (fun z => z * 256 + n % 256) (Int.emod_eq_of_lt (Int.ediv_nonneg h0 (by decide)) (Int.ediv_lt_of_lt_mul (by decide) h1))).trans (Int.ediv_mul_add_emod n 256)
theorem by32r (n : Int) : n / 65536 * 65536 + (n / 256 % 256 * 256 + n % 256) = n := by
  rw [show n / 65536 = n / 256 / 256 from (Int.ediv_ediv_of_nonneg (x := n) (y := 256) (z := 256) (by decide)).symm, ← Int.add_assoc, show (65536 : Int) = 256 * 256 from rfl, ← Int.mul_assoc, ← Int.add_mul, Int.ediv_mul_add_emod (n / 256) 256, Int.ediv_mul_add_emod]
theorem by32 {n : Int} (h0 : 0 ≤ n) (h1 : n < 4294967296) : (n / 65536 / 256 % 256 * 256 + n / 65536 % 256) * 65536 + (n / 256 % 256 * 256 + n % 256) = n :=
  (congrArg (fun z => z * 65536 + (n / 256 % 256 * 256 + n % 256)) (by16 (Int.ediv_nonneg h0 (by decide : (0 : Int) ≤ 65536)) (Int.ediv_lt_of_lt_mul (by decide) h1))).trans (by32r n)
theorem fold_mod (x : Int) : (x % 65536 + x / 65536 - 1) % 65535 = (x - 1) % 65535 := by
  refine Int.emod_eq_emod_iff_emod_sub_eq_zero.mpr ?_
  rw [show x % 65536 + x / 65536 - 1 - (x - 1) = 65535 * (-(x / 65536)) by
    have := Int.mul_ediv_add_emod x 65536
    generalize x % 65536 = r at *; generalize x / 65536 = q at *
    lia]
  exact Int.mul_emod_right ..
theorem fold_nz {x : Int} (h : 65535 < x) : x % 65536 + x / 65536 ≠ 0 :=
  Int.ne_of_gt (Int.add_pos_of_nonneg_of_pos (Int.emod_nonneg x (by decide)) (Int.le_ediv_of_mul_le (by decide) h))
theorem fold_less {x : Int} (h : 65535 < x) : (x % 65536 + x / 65536).toNat < x.toNat := by
  have e := Int.mul_ediv_add_emod x 65536
  have q : 1 ≤ x / 65536 := Int.le_ediv_of_mul_le (by decide) h
  refine (Int.toNat_lt_toNat (Int.lt_trans (by decide) h)).mpr ?_
  generalize x % 65536 = r at *; generalize x / 65536 = q at *
  lia
theorem fold_eq {x y : Int} (h : (x - y) % 65535 = 0) : (x - 1) % 65535 + 1 = (y - 1) % 65535 + 1 :=
  congrArg (· + 1) (Int.emod_eq_emod_iff_emod_sub_eq_zero.mpr ((congrArg (· % 65535) (by lia : x - 1 - (y - 1) = x - y)).trans h))
theorem hop_t {t p : Int} (p0 : 0 ≤ p) (p1 : p < 256) : (t * 256 + p - 256) / 256 = t - 1 ∧ (t * 256 + p - 256) % 256 = p := by
  rw [show t * 256 + p - 256 = p + (t - 1) * 256 by lia, Int.add_mul_ediv_right _ _ (by decide), Int.add_mul_emod_self_right, Int.ediv_eq_zero_of_lt p0 p1, Int.emod_eq_of_lt p0 p1]
  exact ⟨Int.zero_add _, rfl⟩
theorem pad_e (n : Nat) : ((4 - (n : Int) % 4) % 4).toNat = (4 - n % 4) % 4 :=
  congrArg (fun z : Int => (z % 4).toNat) (Int.ofNat_sub (Nat.le_of_lt (Nat.mod_lt n (by decide)))).symm
theorem pad_fin : ∀ r < 4, ((4 - r) % 4 ≤ 3) ∧ (r + (4 - r) % 4) % 4 = 0 ∧ ∀ j < 4, (j ≤ (4 - r) % 4 → (r + j) % 4 ≠ 0 → j + 1 ≤ (4 - r) % 4) ∧ (j ≤ (4 - r) % 4 → (r + j) % 4 = 0 → j = (4 - r) % 4) := by decide
theorem pad_3 (n : Nat) : ((4 - (n : Int) % 4) % 4).toNat ≤ 3 := (pad_e n).symm ▸ (pad_fin _ (Nat.mod_lt n (by decide))).1
theorem pad_4 (n : Nat) : (n + ((4 - (n : Int) % 4) % 4).toNat) % 4 = 0 := by rw [pad_e, ← Nat.mod_add_mod]; exact (pad_fin _ (Nat.mod_lt n (by decide))).2.1
theorem pad_40 {n : Nat} (h : n ≤ 40) : n + ((4 - (n : Int) % 4) % 4).toNat ≤ 40 := by rw [pad_e]; exact (by decide +kernel : ∀ n ≤ 40, n + (4 - n % 4) % 4 ≤ 40) n h
theorem pad_next {n j : Nat} (h : j ≤ ((4 - (n : Int) % 4) % 4).toNat) (hn : ((n + j : Nat) : Int) % 4 ≠ 0) : j + 1 ≤ ((4 - (n : Int) % 4) % 4).toNat := by
  have hj := Nat.lt_succ_of_le (Nat.le_trans h (pad_3 n))
  rw [pad_e] at h ⊢
  exact ((pad_fin _ (Nat.mod_lt n (by decide))).2.2 j hj).1 h fun z => hn (congrArg (Nat.cast : Nat → Int) ((Nat.mod_add_mod n 4 j).symm.trans z))
theorem pad_end {n j : Nat} (h : j ≤ ((4 - (n : Int) % 4) % 4).toNat) (hn : ((n + j : Nat) : Int) % 4 = 0) : j = ((4 - (n : Int) % 4) % 4).toNat := by
  have hj := Nat.lt_succ_of_le (Nat.le_trans h (pad_3 n))
  rw [pad_e] at h ⊢
  exact ((pad_fin _ (Nat.mod_lt n (by decide))).2.2 j hj).2 h ((Nat.mod_add_mod n 4 j).trans (Int.ofNat.inj hn))
theorem mul_less (m a : Nat) : 4 * (m - a) - 4 = 4 * (m - (a + 1)) := by rw [Nat.sub_add_eq, Nat.mul_sub 4 (m - a) 1]
theorem turn_len {i H : Nat} (h : i + 1 ≤ H) : min i H + (0 + 1) + (H - (i + 1)) = H := by rw [Nat.min_eq_left (Nat.le_of_succ_le h)]; exact Nat.add_sub_of_le h
theorem rec_len (a z : Nat) : ((min (4 + 4 * (a : Int) - 3) ((1 + 4 * a + z : Nat) : Int) - 1) / 4).toNat = a := by
  rw [show (4 + 4 * (a : Int) - 3) = ((1 + 4 * a : Nat) : Int) by lia, Int.min_eq_left (Int.ofNat_le.mpr (Nat.le_add_right _ _)), show ((1 + 4 * a : Nat) : Int) - 1 = 4 * (a : Int) by lia, Int.mul_ediv_cancel_left _ (by decide)]; rfl
theorem rs2 (n : Nat) : Builtin.Range.rangeSize 0 (2 * (n : Int)) 2 = (n : Int) := by
  unfold Builtin.Range.rangeSize
  rw [if_pos (by decide)]
  cases n with
  | zero => rfl
  | succ k =>
    rw [if_pos (Int.mul_pos (by decide) (Int.natCast_pos.mpr (Nat.succ_pos k))), show (2 : Int) * ((k + 1 : Nat) : Int) - 0 - 1 = 1 + 2 * (k : Int) by lia, Int.add_mul_ediv_left _ _ (by decide)]
    exact congrArg (· + 1) (Int.zero_add (k : Int))
theorem ev2 (n : Nat) : (n : Int) - (n : Int) % 2 = 2 * ((n / 2 : Nat) : Int) := Int.sub_eq_iff_eq_add.mpr (Int.mul_ediv_add_emod (n : Int) 2).symm
theorem ev2' {n : Nat} (h : n % 2 = 0) : (n : Int) = 2 * ((n / 2 : Nat) : Int) := congrArg (Nat.cast : Nat → Int) (Nat.mul_div_cancel' (Nat.dvd_of_mod_eq_zero h)).symm
theorem roomA {x m : Nat} (h : x ≤ m) : 1 + 4 * x + 4 * (m - x) = 1 + 4 * m := by rw [Nat.add_assoc, ← Nat.mul_add, Nat.add_sub_of_le h]
theorem roomB {m : Nat} (h : m ≤ 5) : 1 + 4 * m ≤ 250 := Nat.le_trans (Nat.add_le_add_left (Nat.mul_le_mul_left 4 h) 1) (by decide)
theorem clip_last (n : Nat) : clipAt (n + 1) (-1) = n := by
  unfold clipAt
  rw [if_pos (by decide), show (-1 : Int) + ((n + 1 : Nat) : Int) = (n : Int) by lia, Int.min_eq_left (Int.ofNat_le.mpr (Nat.le_succ n)), Int.max_eq_right (Int.natCast_nonneg n)]
  rfl
/-! sizes, bounded part by part -/
section
variable {α9 : Type} {l9 r9 : List α9} {a9 : α9} {x9 y9 n9 m9 : Nat}
theorem bTr (h9 : n9 ≤ x9) (k9 : Nat.ble x9 m9 = true) : n9 ≤ m9 := Nat.le_trans h9 (Nat.le_of_ble_eq_true k9)
theorem bApp (h9 : l9.length ≤ x9) (k9 : r9.length ≤ y9) : (l9 ++ r9).length ≤ x9 + y9 := Nat.le_trans (Nat.le_of_eq List.length_append) (Nat.add_le_add h9 k9)
theorem bCons (h9 : l9.length ≤ x9) : (a9 :: l9).length ≤ x9 + 1 := Nat.succ_le_succ h9
theorem bNil : ([] : List α9).length ≤ 0 := Nat.le_refl 0
theorem bTake (h9 : l9.length ≤ x9) : (l9.take n9).length ≤ x9 := Nat.le_trans (List.length_take_le' n9 l9) h9
theorem bDrop (h9 : l9.length ≤ x9) : (l9.drop n9).length ≤ x9 := Nat.le_trans (Nat.le_of_eq List.length_drop) (Nat.le_trans (Nat.sub_le _ _) h9)
theorem bRep (h9 : n9 ≤ x9) : (List.replicate n9 a9).length ≤ x9 := Nat.le_trans (Nat.le_of_eq List.length_replicate) h9
theorem bMin (h9 : n9 ≤ x9) : min m9 n9 ≤ x9 := Nat.le_trans (Nat.min_le_right _ _) h9
theorem bSub (h9 : n9 ≤ x9) : n9 - m9 ≤ x9 := Nat.le_trans (Nat.sub_le _ _) h9
theorem bAdd (h9 : n9 ≤ x9) (k9 : m9 ≤ y9) : n9 + m9 ≤ x9 + y9 := Nat.add_le_add h9 k9
end

/-! base: the shape of a contract, rules of arithmetic, bytes as lists of ints -/
abbrev Led := List (Addr × Obj)
abbrev TC := Tok
/-- what a call of the value f gives: N₀ the ledger ahead of it, N₁ the ledger behind it -/
noncomputable def Con (w : World) (f : Value) (args : List Value) (D : Nat) (N₀ : Led) (Post : Value → Led → Prop) : Prop :=
  ∀ (dp un : Nat) (gd : Option (List Code)) (cn : Str) (cs : Scope) (a : Addr) (ccd : Value) (cl : List (Str × Addr)) (outer : List Env) (A₀ : Around) (base h₀ : Heap) (L : Addr) (m : Str → Option Value) (s : Shared) (Q E : Value → Shared → Prop)
   (p : Program) (loose : List Str) (mean : ExcName → Option Value) (mg mb : Str → Option Value),
    Below A₀ base outer h₀ → Fr h₀ L s.heap m → (Mine.hk.heap_1 w.params).In h₀ → News h₀ L s.heap N₀ → Top p loose mean mg mb h₀ → cs.kind = .function →
    dp + D < recursionLimit → un + 8 * D < cLine →
    (∀ r N₁ h' tk', Post r N₁ → Fr h₀ L h' m → News h₀ L h' N₁ → Q r { s with heap := h', toks := tk' }) →
      wpAny (model PySem.Challenge.rw_nu0131_01.row.prog w) (ktrTop dp un gd cn cs L a ccd cl outer) (call f args) Q E s

theorem Con.use {w : World} {f : Value} {args : List Value} {D : Nat} {N₀ : Led} {Post : Value → Led → Prop} (C : Con w f args D N₀ Post)
  {dp un : Nat} {gd : Option (List Code)} {cn : Str} {cs : Scope} {a : Addr} {ccd : Value} {cl : List (Str × Addr)} {outer : List Env} {A₀ : Around} {base h₀ : Heap} {L : Addr} {m : Str → Option Value} {s : Shared} {Q E : Value → Shared → Prop}
  {p : Program} {loose : List Str} {mean : ExcName → Option Value} {mg mb : Str → Option Value}
    (B : Below A₀ base outer h₀) (F : Fr h₀ L s.heap m) (X : (Mine.hk.heap_1 w.params).In h₀) (N : News h₀ L s.heap N₀) (T : Top p loose mean mg mb h₀) (hk : cs.kind = .function)
    (hd : dp + D < recursionLimit) (hu : un + 8 * D < cLine)
    (ret : ∀ r N₁ h' tk', Post r N₁ → Fr h₀ L h' m → News h₀ L h' N₁ → Q r { s with heap := h', toks := tk' }) :
      wpAny (model PySem.Challenge.rw_nu0131_01.row.prog w) (ktrTop dp un gd cn cs L a ccd cl outer) (call f args) Q E s :=
  C dp un gd cn cs a ccd cl outer A₀ base h₀ L m s Q E p loose mean mg mb B F X N T hk hd hu ret

/-- a contract turned: what comes back is told to the rest binder by binder -/
noncomputable def Kon (w : World) (f : Value) (args : List Value) (D : Nat) (N₀ : Led) (G : (Value → Led → Prop) → Prop) : Prop :=
  ∀ (dp un : Nat) (gd : Option (List Code)) (cn : Str) (cs : Scope) (a : Addr) (ccd : Value) (cl : List (Str × Addr)) (outer : List Env) (A₀ : Around) (base h₀ : Heap) (L : Addr) (m : Str → Option Value) (s : Shared) (Q E : Value → Shared → Prop)
   (p : Program) (loose : List Str) (mean : ExcName → Option Value) (mg mb : Str → Option Value),
    Below A₀ base outer h₀ → Fr h₀ L s.heap m → (Mine.hk.heap_1 w.params).In h₀ → News h₀ L s.heap N₀ → Top p loose mean mg mb h₀ → cs.kind = .function →
    dp + D < recursionLimit → un + 8 * D < cLine →
    (∀ h' tk', Fr h₀ L h' m → G fun r N₁ => News h₀ L h' N₁ → Q r { s with heap := h', toks := tk' }) →
      wpAny (model PySem.Challenge.rw_nu0131_01.row.prog w) (ktrTop dp un gd cn cs L a ccd cl outer) (call f args) Q E s
theorem Con.kon {w : World} {f : Value} {args : List Value} {D : Nat} {N₀ : Led} {Post : Value → Led → Prop} {G : (Value → Led → Prop) → Prop} (C : Con w f args D N₀ Post) (h : ∀ K, G K → ∀ r N, Post r N → K r N) : Kon w f args D N₀ G :=
  fun dp un gd cn cs a ccd cl outer A₀ base h₀ L m s Q E p loose mean mg mb B F X N T hk hd hu g => C dp un gd cn cs a ccd cl outer A₀ base h₀ L m s Q E p loose mean mg mb B F X N T hk hd hu fun r N₁ h' tk' hP F' N' => h _ (g h' tk' F') r N₁ hP N'
theorem Kon.go {w : World} {f : Value} {args : List Value} {D : Nat} {N₀ : Led} {G : (Value → Led → Prop) → Prop}
  {dp un : Nat} {gd : Option (List Code)} {cn : Str} {cs : Scope} {a : Addr} {ccd : Value} {cl : List (Str × Addr)} {outer : List Env} {A₀ : Around} {base h₀ : Heap} {L : Addr} {m : Str → Option Value} {s : Shared} {Q E : Value → Shared → Prop}
  {p : Program} {loose : List Str} {mean : ExcName → Option Value} {mg mb : Str → Option Value}
    (B : Below A₀ base outer h₀) (F : Fr h₀ L s.heap m) (X : (Mine.hk.heap_1 w.params).In h₀) (N : News h₀ L s.heap N₀) (T : Top p loose mean mg mb h₀) (hk : cs.kind = .function)
    (hd : dp + D < recursionLimit) (hu : un + 8 * D < cLine) (C : Kon w f args D N₀ G)
    (g : ∀ h' tk', Fr h₀ L h' m → G fun r N₁ => News h₀ L h' N₁ → Q r { s with heap := h', toks := tk' }) :
      wpAny (model PySem.Challenge.rw_nu0131_01.row.prog w) (ktrTop dp un gd cn cs L a ccd cl outer) (call f args) Q E s := C dp un gd cn cs a ccd cl outer A₀ base h₀ L m s Q E p loose mean mg mb B F X N T hk hd hu g
theorem room9 {dp D k R : Nat} (h : dp + D < R + 1) (hk : k + 1 ≤ D) : dp + k < R := by lia
theorem unit9 {un D k c : Nat} (h : un + 8 * D < c + 8) (hk : k + 1 ≤ D) : un + 8 * k < c := by lia
theorem room9S {dp D k R : Nat} (h : dp + D < R) (hk : k + 1 ≤ D) : dp + 1 + k < R := by lia
theorem unit9S {un D k c : Nat} (h : un + 8 * D < c) (hk : k + 1 ≤ D) : un + 3 + 8 * k < c := by lia
theorem news_sub {h₀ h : Heap} {L : Addr} {l l' : Led} (N : News h₀ L h l) (hs : ∀ p ∈ l', p ∈ l) : News h₀ L h l' := fun p hp => N p (hs p hp)
noncomputable def SubL (M L : Led) : Prop := ∀ p ∈ M, p ∈ L
theorem SubL.refl {M : Led} : SubL M M := fun _ h => h
theorem SubL.skip {M L : Led} {a : Addr × Obj} (h : SubL M L) : SubL M (a :: L) := fun p hp => .tail _ (h p hp)
theorem SubL.skips {M L X : Led} (h : SubL M L) : SubL M (X ++ L) := fun p hp => List.mem_append_right _ (h p hp)
theorem SubL.left {M L X : Led} (h : SubL M L) : SubL M (L ++ X) := fun p hp => List.mem_append_left _ (h p hp)
theorem SubL.cons {M L : Led} {a : Addr × Obj} (h : a ∈ L) (h2 : SubL M L) : SubL (a :: M) L := fun p hp => (List.mem_cons.mp hp).elim (fun e => e ▸ h) (h2 p)
theorem SubL.both {M L : Led} {a : Addr × Obj} (h : SubL M L) : SubL (a :: M) (a :: L) := .cons (.head _) h.skip
theorem SubL.app {M K L : Led} (h : SubL M L) (h2 : SubL K L) : SubL (M ++ K) L := fun p hp => (List.mem_append.mp hp).elim (h p) (h2 p)
theorem news_cons {h₀ h : Heap} {L a : Addr} {o : Obj} {l : Led} (h1 : h.get? a = some o) (h2 : a ≠ L ∧ h₀.get? a = none) (N : News h₀ L h l) : News h₀ L h ((a, o) :: l) := fun p hp => (List.mem_cons.mp hp).elim (fun e => e ▸ ⟨h1, h2⟩) (N p)
theorem news_subL {h₀ h : Heap} {L : Addr} {l l' : Led} (N : News h₀ L h l) (hs : SubL l' l) : News h₀ L h l' := fun p hp => N p (hs p hp)
section
variable {a b : Nat} {P P1 P2 P3 P4 P5 P6 P7 P8 P9 : Prop}
theorem neS (h : a < b ∧ P) : b + 1 ≠ a := Nat.ne_of_gt (Nat.lt_succ_of_lt h.1)
theorem neG0 (h : b < a ∧ P) : a ≠ b := Nat.ne_of_gt h.1
theorem neG1 (h : P1 ∧ b < a ∧ P) : a ≠ b := neG0 h.2
theorem neG2 (h : P1 ∧ P2 ∧ b < a ∧ P) : a ≠ b := neG1 h.2
theorem neG3 (h : P1 ∧ P2 ∧ P3 ∧ b < a ∧ P) : a ≠ b := neG2 h.2
theorem neG4 (h : P1 ∧ P2 ∧ P3 ∧ P4 ∧ b < a ∧ P) : a ≠ b := neG3 h.2
theorem neG5 (h : P1 ∧ P2 ∧ P3 ∧ P4 ∧ P5 ∧ b < a ∧ P) : a ≠ b := neG4 h.2
theorem neG6 (h : P1 ∧ P2 ∧ P3 ∧ P4 ∧ P5 ∧ P6 ∧ b < a ∧ P) : a ≠ b := neG5 h.2
theorem neG7 (h : P1 ∧ P2 ∧ P3 ∧ P4 ∧ P5 ∧ P6 ∧ P7 ∧ b < a ∧ P) : a ≠ b := neG6 h.2
theorem neG8 (h : P1 ∧ P2 ∧ P3 ∧ P4 ∧ P5 ∧ P6 ∧ P7 ∧ P8 ∧ b < a ∧ P) : a ≠ b := neG7 h.2
theorem neT0 {c : Nat} (l : b < c) (h : c < a ∧ P) : a ≠ b := Nat.ne_of_gt (Nat.lt_trans l h.1)
theorem neT1 {c : Nat} (l : b < c) (h : P1 ∧ c < a ∧ P) : a ≠ b := neT0 l h.2
theorem neT2 {c : Nat} (l : b < c) (h : P1 ∧ P2 ∧ c < a ∧ P) : a ≠ b := neT1 l h.2
theorem neT3 {c : Nat} (l : b < c) (h : P1 ∧ P2 ∧ P3 ∧ c < a ∧ P) : a ≠ b := neT2 l h.2
theorem neT4 {c : Nat} (l : b < c) (h : P1 ∧ P2 ∧ P3 ∧ P4 ∧ c < a ∧ P) : a ≠ b := neT3 l h.2
theorem neT5 {c : Nat} (l : b < c) (h : P1 ∧ P2 ∧ P3 ∧ P4 ∧ P5 ∧ c < a ∧ P) : a ≠ b := neT4 l h.2
theorem neT6 {c : Nat} (l : b < c) (h : P1 ∧ P2 ∧ P3 ∧ P4 ∧ P5 ∧ P6 ∧ c < a ∧ P) : a ≠ b := neT5 l h.2
end
theorem unit0 {un D c : Nat} (h : un + 8 * D < c + 8) (hk : 1 ≤ D) : un < c := unit9 (k := 0) h hk
theorem unit0S {un D c : Nat} (h : un + 8 * D < c) (hk : 1 ≤ D) : un + 3 < c := unit9S (k := 0) h hk

section
variable {prog : Program} {w : World} {A : Around} {E : Value → Shared → Prop} {s : Shared} {Q : Value → Shared → Prop} {a b n : Int} {t u : Tok}
theorem and_255 (h : Q (.int (a % 256) s.toks) { s with toks := s.toks + 1 }) : wpAny (model prog w) A (binaryOp .BitAnd (.int a t) (.int 255 u)) Q E s :=
  and_int (by rw [bitAnd_m8]; exact h)
theorem and_65535 (h : Q (.int (a % 65536) s.toks) { s with toks := s.toks + 1 }) : wpAny (model prog w) A (binaryOp .BitAnd (.int a t) (.int 65535 u)) Q E s :=
  and_int (by rw [bitAnd_m16]; exact h)
theorem and_8191 (h : Q (.int (a % 8192) s.toks) { s with toks := s.toks + 1 }) : wpAny (model prog w) A (binaryOp .BitAnd (.int a t) (.int 8191 u)) Q E s :=
  and_int (by
    have e := kbt_mask a 13
    have q : (2 : Int) ^ 13 - 1 = 8191 := by decide
    have q2 : (2 : Int) ^ 13 = 8192 := by decide
    rw [q, q2] at e; rw [e]; exact h)
theorem and_16384 (h : Q (.int (a / 16384 % 2 * 16384) s.toks) { s with toks := s.toks + 1 }) : wpAny (model prog w) A (binaryOp .BitAnd (.int a t) (.int 16384 u)) Q E s :=
  and_int (by
    have e := kbt_bit a 14
    have q2 : (2 : Int) ^ 14 = 16384 := by decide
    rw [q2] at e; rw [e]; exact h)
theorem and_8192 (h : Q (.int (a / 8192 % 2 * 8192) s.toks) { s with toks := s.toks + 1 }) : wpAny (model prog w) A (binaryOp .BitAnd (.int a t) (.int 8192 u)) Q E s :=
  and_int (by
    have e := kbt_bit a 13
    have q2 : (2 : Int) ^ 13 = 8192 := by decide
    rw [q2] at e; rw [e]; exact h)
theorem shr_8 (h : Q (.int (a / 256) s.toks) { s with toks := s.toks + 1 }) : wpAny (model prog w) A (binaryOp .RShift (.int a t) (.int 8 u)) Q E s :=
  rshift_int (by decide) (by rw [show a.fdiv (2 ^ (8 : Int).toNat) = a / 256 from Int.fdiv_eq_ediv_of_nonneg a (by decide)]; exact h)
theorem shr_16 (h : Q (.int (a / 65536) s.toks) { s with toks := s.toks + 1 }) : wpAny (model prog w) A (binaryOp .RShift (.int a t) (.int 16 u)) Q E s :=
  rshift_int (by decide) (by rw [show a.fdiv (2 ^ (16 : Int).toNat) = a / 65536 from Int.fdiv_eq_ediv_of_nonneg a (by decide)]; exact h)
theorem shl_8 (h0 : 0 ≤ a) (h1 : a < 65536) (h : Q (.int (a * 256) s.toks) { s with toks := s.toks + 1 }) : wpAny (model prog w) A (binaryOp .LShift (.int a t) (.int 8 u)) Q E s :=
  lshift_int_small (by decide) (by decide) (by lia) (by rw [show (2 : Int) ^ (8 : Int).toNat = 256 from by decide]; exact h)
theorem shl_16 (h0 : 0 ≤ a) (h1 : a < 65536) (h : Q (.int (a * 65536) s.toks) { s with toks := s.toks + 1 }) : wpAny (model prog w) A (binaryOp .LShift (.int a t) (.int 16 u)) Q E s :=
  lshift_int_small (by decide) (by decide) (by lia) (by rw [show (2 : Int) ^ (16 : Int).toNat = 65536 from by decide]; exact h)
theorem bitOr_nat (x y : Nat) : Builtin.bitOr (x : Int) (y : Int) = ((x ||| y : Nat) : Int) := by
  unfold Builtin.bitOr Builtin.bitAnd
  have hx : decide (0 ≤ Builtin.bitNot (x : Int)) = false := decide_eq_false (by unfold Builtin.bitNot; lia)
  have hy : decide (0 ≤ Builtin.bitNot (y : Int)) = false := decide_eq_false (by unfold Builtin.bitNot; lia)
  rw [hx, hy]
  have e : ∀ z : Int, Builtin.bitNot (Builtin.bitNot z) = z := fun z => by unfold Builtin.bitNot; lia
  simp only [e, Int.toNat_natCast]
theorem bitOr_shl (i : Nat) (x y : Int) (h0 : 0 ≤ x) (h1 : 0 ≤ y) (h2 : y < 2 ^ i) : Builtin.bitOr (x * 2 ^ i) y = x * 2 ^ i + y := by
  obtain ⟨p, rfl⟩ := Int.eq_ofNat_of_zero_le h0
  obtain ⟨q, rfl⟩ := Int.eq_ofNat_of_zero_le h1
  have hq : q < 2 ^ i := by exact_mod_cast h2
  have e := Nat.shiftLeft_add_eq_or_of_lt hq p
  rw [Nat.shiftLeft_eq] at e
  have c : ((p : Int) * 2 ^ i) = ((p * 2 ^ i : Nat) : Int) := by push_cast; rfl
  rw [c, bitOr_nat, ← e]; push_cast; rfl
theorem or_8 (h0 : 0 ≤ a) (h1 : 0 ≤ b) (h2 : b < 256) (h : Q (.int (a * 256 + b) s.toks) { s with toks := s.toks + 1 }) : wpAny (model prog w) A (binaryOp .BitOr (.int (a * 256) t) (.int b u)) Q E s :=
  or_int (by
    have e := bitOr_shl 8 a b h0 h1 (by have : (2 : Int) ^ 8 = 256 := by decide
                                        lia)
    rw [show (2 : Int) ^ 8 = 256 from by decide] at e; rw [e]; exact h)
theorem or_16 (h0 : 0 ≤ a) (h1 : 0 ≤ b) (h2 : b < 65536) (h : Q (.int (a * 65536 + b) s.toks) { s with toks := s.toks + 1 }) : wpAny (model prog w) A (binaryOp .BitOr (.int (a * 65536) t) (.int b u)) Q E s :=
  or_int (by
    have e := bitOr_shl 16 a b h0 h1 (by have : (2 : Int) ^ 16 = 65536 := by decide
                                         lia)
    rw [show (2 : Int) ^ 16 = 65536 from by decide] at e; rw [e]; exact h)
theorem fdivK (hn : 0 < n) (h : Q (.int (a / n) s.toks) { s with toks := s.toks + 1 })
    (hp : Builtin.divisionGoesByPylong a n = false ∨ PySem.PylongRoom (model prog w) A s) : wpAny (model prog w) A (binaryOp .FloorDiv (.int a t) (.int n u)) Q E s :=
  floordiv_int (by lia) (by rw [Int.fdiv_eq_ediv_of_nonneg a (by lia)]; exact h) hp
theorem fmodK (hn : 0 < n) (h : Q (.int (a % n) s.toks) { s with toks := s.toks + 1 }) : wpAny (model prog w) A (binaryOp .Mod (.int a t) (.int n u)) Q E s :=
  mod_int' (by lia) (by rw [Int.fmod_eq_emod_of_nonneg a (by lia)]; exact h)
end
abbrev BI := KBw.bInts
abbrev InB (ks : List Int) : Prop := ∀ k ∈ ks, 0 ≤ k ∧ k < 256
theorem inB_of {b : Array UInt8} {ks : List Int} (h : BI b = ks) : InB ks := by
  subst h
  exact fun k hk => KBw.ints_in (b := b) hk
theorem getD_inB {ks : List Int} (h : InB ks) (j : Nat) : 0 ≤ ks.getD j 0 ∧ ks.getD j 0 < 256 := by
  by_cases hj : j < ks.length
  · have e : ks.getD j 0 = ks[j] := by simp [hj]
    rw [e]; exact h _ (List.getElem_mem hj)
  · have e : ks.getD j 0 = 0 := by simp [List.getD_eq_getElem?_getD, List.getElem?_eq_none (Nat.le_of_not_lt hj)]
    rw [e]; lia
theorem bi_inj {b c : Array UInt8} (h : BI b = BI c) : b = c := by
  have : ∀ l l' : List UInt8, (l.map fun c => (c.toNat : Int)) = l'.map (fun c => (c.toNat : Int)) → l = l' := by
    intro l
    induction l with
    | nil => intro l' e; cases l' with
      | nil => rfl
      | cons _ _ => cases e
    | cons x r ih => intro l' e; cases l' with
      | nil => cases e
      | cons y r' =>
        simp only [List.map_cons, List.cons.injEq] at e
        have : x = y := UInt8.toNat_inj.mp (by exact_mod_cast e.1)
        rw [this, ih _ e.2]
  have e := this b.toList c.toList h
  exact Array.toList_inj.mp e
section
variable {prog : Program} {w : World} {A : Around} {E : Value → Shared → Prop} {s : Shared} {Q : Value → Shared → Prop} {b c : Array UInt8} {ks ls ns : List Int} {t u : Tok} {h₀ : Heap} {L D : Addr} {m : Str → Option Value} {news : Led} {vs : List Value} {i : Int}
theorem b_add (hb : BI b = ks) (hc : BI c = ls) (hsz : ks.length + ls.length ≤ 16777216) (h : ∀ d t' k, BI d = ks ++ ls → Q (.bytes d t') { s with toks := k }) :
    wpAny (model prog w) A (binaryOp .Add (.bytes b t) (.bytes c u)) Q E s := KBa.add_K hb hc hsz fun t' k e => h _ t' k e
theorem b_len (hk : BI b = ks) (hfit : ks.length ≤ 1099511627776) (h : Q (.int (ks.length : Nat) (s.toks + 1)) { s with toks := s.toks + 1 + 1 }) : wpAny (model prog w) A (call (.builtin "len") [.bytes b t]) Q E s := KBw.len_K hk hfit h
theorem b_item {value slice : PySem.Expr} (hk : BI b = ks) (hfit : ks.length ≤ 1099511627776) (h0 : 0 ≤ i) (h1 : i < (ks.length : Int))
    (h : ∀ t' k, Q (.int (ks.getD i.toNat 0) t') { s with toks := k })
    (hs : subscripted slice false (.bytes b t) (.int i u) = operate [.bytes b t, .int i u] (getItem (.bytes b t) (.int i u)))
    (ht : ∀ r, letTemporaryGo value (.bytes b t) r = pure ()) : wpAny (model prog w) A (subscriptTail value slice (.bytes b t) (.int i u)) Q E s :=
  KBw.item_K hk hfit h0 h1 (fun t' k _ _ => h t' k) hs ht
theorem b_make (F : Fr h₀ L s.heap m) (N : News h₀ L s.heap news) (hh : A.handled = none) (hl : s.heap.IsList D vs.toArray) (hi : IntsAre vs ns) (hr : InB ns) (hn : ns.length ≤ 16777216)
    (h : ∀ h' t' k d, Fr h₀ L h' m → News h₀ L h' news → BI d = ns → Q (.bytes d t') { s with heap := h', toks := k }) : wpAny (model prog w) A (call (.type "bytes") [.ref D]) Q E s :=
  KBa.make_K F N hh hl hi hr hn fun h' t' k F' N' hi' => h h' t' k _ F' N' (KBa.ints_make hi')
theorem b_slice {value slice : PySem.Expr} {l u' : Value} {lo hi : Option Int} (hF : Fr h₀ L s.heap m) (hN : News h₀ L s.heap news) (hk : BI b = ks) (hl : IsPart l lo) (hu : IsPart u' hi) (hz : ks.length ≤ 16777216)
    (h : ∀ h' t' k d, Fr h₀ L h' m → News h₀ L h' news → BI d = (ks.drop (lo.elim 0 (clipAt ks.length))).take (hi.elim ks.length (clipAt ks.length) - lo.elim 0 (clipAt ks.length)) → Q (.bytes d t') { s with heap := h', toks := k })
    (hs : subscripted slice false (.bytes b t) (.ref s.heap.objs.size) = operate [.ref s.heap.objs.size, .bytes b t] (getItem (.bytes b t) (.ref s.heap.objs.size)))
    (ht : ∀ r, letTemporaryGo value (.bytes b t) r = pure ()) :
    wpAny (model prog w) A (subscriptTail value slice (.bytes b t) (.ref s.heap.objs.size)) Q E { s with heap := s.heap.push { cls := .type "slice", data := .fields #[l, u', .none] } } :=
  KBc.slice_K hF hN hk hl hu hz (fun h' t' k F' N' e => h h' t' k _ F' N' e) hs ht
theorem cut_hd (ks : List Int) {i : Int} (h0 : 0 ≤ i) : (ks.drop ((none : Option Int).elim 0 (clipAt ks.length))).take ((some i).elim ks.length (clipAt ks.length) - (none : Option Int).elim 0 (clipAt ks.length)) = ks.take i.toNat := by
  obtain ⟨n, rfl⟩ := Int.eq_ofNat_of_zero_le h0
  simp only [Option.elim, List.drop_zero, Nat.sub_zero, clipAt_nat, Int.toNat_natCast]
  rw [← List.take_take, List.take_length]
theorem cut_tl (ks : List Int) {i : Int} (h0 : 0 ≤ i) : (ks.drop ((some i).elim 0 (clipAt ks.length))).take ((none : Option Int).elim ks.length (clipAt ks.length) - (some i).elim 0 (clipAt ks.length)) = ks.drop i.toNat := by
  obtain ⟨n, rfl⟩ := Int.eq_ofNat_of_zero_le h0
  simp only [Option.elim, clipAt_nat, Int.toNat_natCast]
  by_cases h : n ≤ ks.length
  · rw [Nat.min_eq_left h, List.take_of_length_le (by rw [List.length_drop]; exact Nat.le_refl _)]
  · rw [Nat.min_eq_right (by lia), Nat.sub_self, List.take_zero, List.drop_of_length_le (by lia)]
theorem cut_md (ks : List Int) {i j : Int} (h0 : 0 ≤ i) (h1 : 0 ≤ j) : (ks.drop ((some i).elim 0 (clipAt ks.length))).take ((some j).elim ks.length (clipAt ks.length) - (some i).elim 0 (clipAt ks.length)) = (ks.drop i.toNat).take (j.toNat - i.toNat) := by
  obtain ⟨n, rfl⟩ := Int.eq_ofNat_of_zero_le h0
  obtain ⟨k, rfl⟩ := Int.eq_ofNat_of_zero_le h1
  simp only [Option.elim, clipAt_nat, Int.toNat_natCast]
  by_cases h : n ≤ ks.length
  · rw [Nat.min_eq_left h]
    by_cases h2 : k ≤ ks.length
    · rw [Nat.min_eq_left h2]
    · rw [Nat.min_eq_right (by lia), List.take_of_length_le (by rw [List.length_drop]; exact Nat.le_refl _), List.take_of_length_le (by rw [List.length_drop]; lia)]
  · rw [Nat.min_eq_right (by lia : ks.length ≤ n), List.drop_of_length_le (Nat.le_refl _), List.drop_of_length_le (by lia), List.take_nil, List.take_nil]
theorem b_slice_hd {value slice : PySem.Expr} {i : Int} {ti : Tok} (hF : Fr h₀ L s.heap m) (hN : News h₀ L s.heap news) (hk : BI b = ks) (h0 : 0 ≤ i) (hz : ks.length ≤ 16777216)
    (h : ∀ h' t' k d, Fr h₀ L h' m → News h₀ L h' news → BI d = ks.take i.toNat → Q (.bytes d t') { s with heap := h', toks := k })
    (hs : subscripted slice false (.bytes b t) (.ref s.heap.objs.size) = operate [.ref s.heap.objs.size, .bytes b t] (getItem (.bytes b t) (.ref s.heap.objs.size)))
    (ht : ∀ r, letTemporaryGo value (.bytes b t) r = pure ()) :
    wpAny (model prog w) A (subscriptTail value slice (.bytes b t) (.ref s.heap.objs.size)) Q E { s with heap := s.heap.push { cls := .type "slice", data := .fields #[.none, .int i ti, .none] } } :=
  b_slice hF hN hk (by constructor) (by constructor) hz (fun h' t' k d F' N' e => h h' t' k d F' N' (e.trans (cut_hd ks h0))) hs ht
theorem b_slice_tl {value slice : PySem.Expr} {i : Int} {ti : Tok} (hF : Fr h₀ L s.heap m) (hN : News h₀ L s.heap news) (hk : BI b = ks) (h0 : 0 ≤ i) (hz : ks.length ≤ 16777216)
    (h : ∀ h' t' k d, Fr h₀ L h' m → News h₀ L h' news → BI d = ks.drop i.toNat → Q (.bytes d t') { s with heap := h', toks := k })
    (hs : subscripted slice false (.bytes b t) (.ref s.heap.objs.size) = operate [.ref s.heap.objs.size, .bytes b t] (getItem (.bytes b t) (.ref s.heap.objs.size)))
    (ht : ∀ r, letTemporaryGo value (.bytes b t) r = pure ()) :
    wpAny (model prog w) A (subscriptTail value slice (.bytes b t) (.ref s.heap.objs.size)) Q E { s with heap := s.heap.push { cls := .type "slice", data := .fields #[.int i ti, .none, .none] } } :=
  b_slice hF hN hk (by constructor) (by constructor) hz (fun h' t' k d F' N' e => h h' t' k d F' N' (e.trans (cut_tl ks h0))) hs ht
theorem b_slice_md {value slice : PySem.Expr} {i j : Int} {ti tj : Tok} (hF : Fr h₀ L s.heap m) (hN : News h₀ L s.heap news) (hk : BI b = ks) (h0 : 0 ≤ i) (h1 : 0 ≤ j) (hz : ks.length ≤ 16777216)
    (h : ∀ h' t' k d, Fr h₀ L h' m → News h₀ L h' news → BI d = (ks.drop i.toNat).take (j.toNat - i.toNat) → Q (.bytes d t') { s with heap := h', toks := k })
    (hs : subscripted slice false (.bytes b t) (.ref s.heap.objs.size) = operate [.ref s.heap.objs.size, .bytes b t] (getItem (.bytes b t) (.ref s.heap.objs.size)))
    (ht : ∀ r, letTemporaryGo value (.bytes b t) r = pure ()) :
    wpAny (model prog w) A (subscriptTail value slice (.bytes b t) (.ref s.heap.objs.size)) Q E { s with heap := s.heap.push { cls := .type "slice", data := .fields #[.int i ti, .int j tj, .none] } } :=
  b_slice hF hN hk (by constructor) (by constructor) hz (fun h' t' k d F' N' e => h h' t' k d F' N' (e.trans (cut_md ks h0 h1))) hs ht
theorem b_eq (hb : BI b = ks) (hc : BI c = ls) (h : Q (.bool (decide (ks = ls))) s) : wpAny (model prog w) A (compareOp .Eq (.bytes b t) (.bytes c u)) Q E s :=
  eq_bytes (by
    have e : (b.toList == c.toList) = decide (ks = ls) := by
      by_cases q : b = c
      · subst q; rw [← hb, ← hc]; simp
      · have q1 : b.toList ≠ c.toList := fun e => q (Array.toList_inj.mp e)
        have q2 : ks ≠ ls := fun e => q (bi_inj (by rw [hb, hc, e]))
        rw [decide_eq_false q2]; exact beq_eq_false_iff_ne.mpr q1
    rw [e]; exact h)
theorem b_ne (hb : BI b = ks) (hc : BI c = ls) (h : Q (.bool (!decide (ks = ls))) s) : wpAny (model prog w) A (compareOp .NotEq (.bytes b t) (.bytes c u)) Q E s :=
  ne_bytes (by
    have e : (b.toList != c.toList) = !decide (ks = ls) := by
      by_cases q : b = c
      · subst q; rw [← hb, ← hc]; simp
      · have q1 : b.toList ≠ c.toList := fun e => q (Array.toList_inj.mp e)
        have q2 : ks ≠ ls := fun e => q (bi_inj (by rw [hb, hc, e]))
        rw [decide_eq_false q2]; exact bne_iff_ne.mpr q1
    rw [e]; exact h)
end
theorem reg_p01_0 : True := by
  k_with "side 0" => ((any_goals ((with_reducible show Below _ _ _ _); k_asm)); (any_goals ((with_reducible show Fr _ _ _ _); k_asm)); (any_goals ((with_reducible show Frag.In _ _); k_asm)); (any_goals ((with_reducible show News _ _ _ _); k_asm)); (any_goals ((with_reducible show Top _ _ _ _ _ _); k_asm)); (any_goals ((with_reducible show Scope.kind _ = _); first | exact rfl | assumption)))
  k_with "side 9" => ((any_goals ((with_reducible show _ < recursionLimit); first | exact room9 (by assumption) (Nat.le_of_ble_eq_true rfl) | exact room9S (by assumption) (Nat.le_of_ble_eq_true rfl) | ktr_room)); (any_goals ((with_reducible show _ < cLine); first | exact unit9 (by assumption) (Nat.le_of_ble_eq_true rfl) | exact unit9S (by assumption) (Nat.le_of_ble_eq_true rfl) | ktr_units)))
  k_with "call builtin:list.append" => (k_here; (show wpAny _ _ (call (Value.builtin _) [Value.ref _, _]) _ _ _); k_dflt (refine' append_K ?k1 ?k2 ?k3 ?_ ?z; (case k1 => k_asm); (case k2 => k_asm); (case k3 => k_upd); (case z => size_fits); k_whole); intro _ _ _; (try k_sweep))
  k_with "k_mem" => first | assumption | ktr_member | exact List.mem_cons_self | (refine' List.mem_cons_of_mem _ ?_; k_mem) | exact List.Mem.head _
  k_with "in" => first | with_reducible assumption | with_reducible exact List.Mem.head _ | exact List.Mem.head _ | with_reducible first | (refine List.Mem.tail _ ?_; k_extra "in") | (refine List.mem_append_right _ ?_; k_extra "in") | (refine List.mem_append_left _ ?_; k_extra "in")
  k_with "sub0" => with_reducible first | exact SubL.refl | (refine SubL.skip ?_; k_extra "sub0") | (refine SubL.skips ?_; k_extra "sub0") | (refine SubL.left ?_; k_extra "sub0")
  k_with "sub" => ((repeat' (first | k_extra "sub0" | with_reducible refine SubL.both ?_ | (with_reducible refine SubL.cons ?_ ?_; (focus (k_extra "in"; done))) | with_reducible refine SubL.app ?_ ?_)); done)
  k_with "k_ne" => (refine neN ?_; (try dsimp only); with_reducible first | exact Nat.ne_of_gt (by assumption) | exact Nat.ne_of_lt (by assumption) | assumption | exact Ne.symm (by assumption) | exact neG0 (by assumption) | exact neG1 (by assumption) | exact neG2 (by assumption) | exact neG3 (by assumption) | exact neG4 (by assumption) | exact neG5 (by assumption) | exact neG6 (by assumption) | exact neG7 (by assumption) | exact neG8 (by assumption) | exact Ne.symm (neG0 (by assumption)) | exact Ne.symm (neG1 (by assumption)) | exact Ne.symm (neG2 (by assumption)) | exact Ne.symm (neG3 (by assumption)) | exact Ne.symm (neG4 (by assumption)) | exact Ne.symm (neG5 (by assumption)) | exact Ne.symm (neG6 (by assumption)) | exact Ne.symm (neG7 (by assumption)) | exact Ne.symm (neG8 (by assumption)) | exact neS (by assumption) | exact Ne.symm (neS (by assumption)) | exact neT0 (by assumption) (by assumption) | exact neT1 (by assumption) (by assumption) | exact neT2 (by assumption) (by assumption) | exact neT3 (by assumption) (by assumption) | exact neT4 (by assumption) (by assumption) | exact neT5 (by assumption) (by assumption) | exact neT6 (by assumption) (by assumption))
  k_with "ktr_units" => first | exact unit0 (by assumption) (Nat.le_of_ble_eq_true rfl) | exact unit0S (by assumption) (Nat.le_of_ble_eq_true rfl)
  k_with "bnd" => with_reducible first | assumption | exact pad_3 _ | (apply bApp; (focus (k_extra "bnd"; done)); (focus (k_extra "bnd"; done))) | (apply bCons; k_extra "bnd") | exact bNil | (apply bTake; k_extra "bnd") | (apply bDrop; k_extra "bnd") | (apply bRep; k_extra "bnd") | (apply bMin; k_extra "bnd") | (apply bSub; k_extra "bnd") | (apply bAdd; (focus (k_extra "bnd"; done)); (focus (k_extra "bnd"; done))) | exact Nat.le_refl _
  k_with "size" => first | exact Nat.le_of_ble_eq_true rfl | (apply bTr; (focus (k_extra "bnd"; done)); exact rfl)
  k_with "size_fits" => exact Nat.le_of_ble_eq_true rfl
  trivial

/-! bytes(n), bytes(b) -/
section
variable {prog : Program} {w : World} {A : Around} {E : Value → Shared → Prop} {s : Shared} {Q : Value → Shared → Prop} {b : Array UInt8} {n : Int} {t u : Tok}
theorem typeIs_int' {i : Int} : s.TypeIs (.int i t) "int" := typeIs_int _ _ _
theorem no_bytes_int : typeLookup (.type "int") "__bytes__" = pure none := by rw [typeLookup_type, builtinLookup_eq_fast]; kernel_rfl
theorem has_index_int : typeLookup (.type "int") "__index__" = pure (some (.builtin "int.__index__")) := by rw [typeLookup_type, builtinLookup_eq_fast]; kernel_rfl
theorem has_bytes_bytes : typeLookup (.type "bytes") "__bytes__" = pure (some (.builtin "bytes.__bytes__")) := by rw [typeLookup_type, builtinLookup_eq_fast]; kernel_rfl
theorem typeCall1 (a : Value) : checkTypeCall "bytes" ⟨[a], []⟩ = pure () := by kernel_rfl
theorem new_bytes_bytes (hQ : Q (.bytes b t) s) :
    codeAny (model prog w) A (.call (.builtin "bytes.__new__") ⟨[.type "bytes", .bytes b t], []⟩) (wants Q E) s := by
  refine codeAny_of_tree ?_
  show wpAny _ A.in1 (do checkBuiltinCall "bytes.__new__" ⟨[.type "bytes", .bytes b t], []⟩; again (.builtin "bytes.__new__" ⟨[.type "bytes", .bytes b t], []⟩)) _ _ s
  refine wpAny_bind (wpAny_of_eq (F.bm_newCall _) (wpAny_pure ⟨plainId_quiet F.bm_plain _, codeAny_builtin F.bm_entry ?_⟩))
  rw [Around.under_plainId F.bm_plain _]
  have hT : s.TypeIs (.bytes b t) "bytes" := typeIs_bytes _ _ _
  unfold Builtin.«bytes.__new__»
  refine wpAny_bind (wpAny_of_eq (a := true) rfl ?_)
  refine bm_if_false rfl ?_
  refine wpAny_bind (wpAny_of_eq F.bm_sub ?_)
  refine bm_if_false rfl ?_
  refine wpAny_bind (wpAny_of_eq (F.bm_bind _) ?_)
  refine wpAny_bind (wpAny_of_eq (a := ()) rfl ?_)
  refine wpAny_bind (wpAny_of_eq (a := ()) rfl ?_)
  refine bm_if_false rfl ?_
  refine wpAny_bind (wpAny_specialOf hT has_bytes_bytes ?_)
  refine wpAny_bind (wpAny_rule ?_)
  refine wpAny_bind (wpAny_typeOf hT ?_)
  refine bm_if_true (by decide +kernel) ?_
  exact wpAny_of_eq (a := Fin.done (.ret (.bytes b t))) rfl hQ
theorem new_bytes_int (h0 : 0 ≤ n) (h1 : n ≤ 1000000) (hQ : Q (.bytes (Array.replicate n.toNat 0) s.toks) { s with toks := s.toks + 1 }) :
    codeAny (model prog w) A (.call (.builtin "bytes.__new__") ⟨[.type "bytes", .int n t], []⟩) (wants Q E) s := by
  refine codeAny_of_tree ?_
  show wpAny _ A.in1 (do checkBuiltinCall "bytes.__new__" ⟨[.type "bytes", .int n t], []⟩; again (.builtin "bytes.__new__" ⟨[.type "bytes", .int n t], []⟩)) _ _ s
  refine wpAny_bind (wpAny_of_eq (F.bm_newCall _) (wpAny_pure ⟨plainId_quiet F.bm_plain _, codeAny_builtin F.bm_entry ?_⟩))
  rw [Around.under_plainId F.bm_plain _]
  have hT : s.TypeIs (.int n t) "int" := typeIs_int _ _ _
  unfold Builtin.«bytes.__new__»
  refine wpAny_bind (wpAny_of_eq (a := true) rfl ?_)
  refine bm_if_false rfl ?_
  refine wpAny_bind (wpAny_of_eq F.bm_sub ?_)
  refine bm_if_false rfl ?_
  refine wpAny_bind (wpAny_of_eq (F.bm_bind _) ?_)
  refine wpAny_bind (wpAny_of_eq (a := ()) rfl ?_)
  refine wpAny_bind (wpAny_of_eq (a := ()) rfl ?_)
  refine bm_if_false rfl ?_
  refine wpAny_bind (wpAny_specialOf hT no_bytes_int ?_)
  dsimp only
  refine wpAny_bind (wpAny_of_eq (a := false) rfl ?_)
  refine bm_if_false rfl ?_
  refine wpAny_bind (wpAny_specialOf hT has_index_int ?_)
  refine bm_if_false rfl ?_
  refine wpAny_bind (wpAny_attempt (wpAny_of_eq (a := n) rfl ?_))
  dsimp only
  have hf : Builtin.Bytes.fitsIndex n = true := by
    simp only [Builtin.Bytes.fitsIndex, Bool.and_eq_true, decide_eq_true_eq]; lia
  refine bm_if_false (by rw [hf]; rfl) ?_
  refine wpAny_ite ?_
  rw [if_neg (by lia)]
  refine wpAny_ite ?_
  rw [if_neg (by lia)]
  refine bm_if_false (KBy.tooLong_not (by lia)) ?_
  refine wpAny_bind (wpAny_rule ?_)
  refine wpAny_bind ?_
  refine wpAny_mkBytes ?_ (by simp only [Array.size_replicate]; rw [sizeLine_eq]; lia)
  exact wpAny_of_eq (a := Fin.done (.ret (.bytes (Array.replicate n.toNat 0) s.toks))) rfl hQ
theorem bi_zeros (k : Nat) : BI (Array.replicate k (0 : UInt8)) = List.replicate k 0 := by
  show (Array.replicate k (0 : UInt8)).toList.map _ = _
  rw [Array.toList_replicate, List.map_replicate]; rfl
theorem b_of_bytes {ks : List Int} (hb : BI b = ks) (h : ∀ d t' k, BI d = ks → Q (.bytes d t') { s with toks := k }) : wpAny (model prog w) A (call (.type "bytes") [.bytes b t]) Q E s := by
  refine callType_codes (Q₁ := fun obj s₁ => s₁.TypeIs obj "bytes" ∧ Q obj s₁) F.bm_called (F.bm_typeCall _) F.entry_object_init
    (new_bytes_bytes ⟨typeIs_bytes _ _ _, h b t s.toks hb⟩) fun obj s₁ h₁ => ?_
  exact ⟨h₁.1, F.args_object_init_2 obj _, object_init_meets F.bm_called.init.lookup F.bm_called.made (by decide) prog w A.in1 _ s₁ ⟨h₁.1, rfl, h₁.2⟩⟩
theorem b_of_int (h0 : 0 ≤ n) (h1 : n ≤ 1000000) (h : ∀ d t' k, BI d = List.replicate n.toNat 0 → Q (.bytes d t') { s with toks := k }) : wpAny (model prog w) A (call (.type "bytes") [.int n t]) Q E s := by
  refine callType_codes (Q₁ := fun obj s₁ => s₁.TypeIs obj "bytes" ∧ Q obj s₁) F.bm_called (F.bm_typeCall _) F.entry_object_init
    (new_bytes_int h0 h1 ⟨typeIs_bytes _ _ _, h _ _ _ (bi_zeros _)⟩) fun obj s₁ h₁ => ?_
  exact ⟨h₁.1, F.args_object_init_2 obj _, object_init_meets F.bm_called.init.lookup F.bm_called.made (by decide) prog w A.in1 _ s₁ ⟨h₁.1, rfl, h₁.2⟩⟩
end
section
variable {prog : Program} {w : World} {A : Around} {E : Value → Shared → Prop} {s : Shared} {Q : Value → Shared → Prop} {b : Array UInt8} {ks : List Int} {t u : Tok}
theorem b_eq_nil (hb : BI b = ks) (h : Q (.bool (((ks.length : Nat) : Int) == 0)) s) : wpAny (model prog w) A (compareOp .Eq (.bytes b t) (.bytes #[] u)) Q E s :=
  b_eq (ls := []) hb rfl (by
    have e : decide (ks = []) = (((ks.length : Nat) : Int) == 0) := by cases ks <;> simp; lia
    rw [e]; exact h)
theorem b_ne_nil (hb : BI b = ks) (h : Q (.bool (((ks.length : Nat) : Int) != 0)) s) : wpAny (model prog w) A (compareOp .NotEq (.bytes b t) (.bytes #[] u)) Q E s :=
  b_ne (ls := []) hb rfl (by
    have e : (!decide (ks = [])) = (((ks.length : Nat) : Int) != 0) := by cases ks <;> simp; lia
    rw [e]; exact h)
end
theorem reg_p02_0 : True := by
  k_with "binaryOp BitAnd int int" => (k_here; first | with_reducible refine and_255 ?_ | with_reducible refine and_65535 ?_ | with_reducible refine and_8191 ?_ | with_reducible refine and_16384 ?_ | with_reducible refine and_8192 ?_; (try dsimp only))
  k_with "binaryOp RShift int int" => (k_here; first | with_reducible refine shr_8 ?_ | with_reducible refine shr_16 ?_; (try dsimp only))
  k_with "binaryOp LShift int int" => (k_here; first | with_reducible refine shl_8 (by lia) (by lia) ?_ | with_reducible refine shl_16 (by lia) (by lia) ?_; (try dsimp only))
  k_with "binaryOp BitOr int int" => (k_here; first | with_reducible refine or_8 (by lia) (by lia) (by lia) ?_ | with_reducible refine or_16 (by lia) (by lia) (by lia) ?_; (try dsimp only))
  k_with "binaryOp FloorDiv int int" => (k_here; with_reducible refine fdivK (by lia) ?_ (Or.inl (PyProof.noPylong_small (by lia))); (try dsimp only))
  k_with "binaryOp Mod int int" => (k_here; with_reducible refine fmodK (by lia) ?_; (try dsimp only))
  k_with "call type:bytes" => (k_here; (with_reducible show wpAny _ _ (call (Value.type "bytes") [Value.bytes _ _]) _ _ _); (refine b_of_bytes (by assumption) ?_); intro _ _ _ _; (try dsimp only))
  k_with "call type:bytes" => (k_here; (with_reducible show wpAny _ _ (call (Value.type "bytes") [Value.int _ _]) _ _ _); (refine b_of_int (by lia) (by lia) ?_); intro _ _ _ _; (try dsimp only))
  k_with "kba_in" => ((simp only [List.forall_mem_cons, List.not_mem_nil, false_implies, implies_true, and_true]); (repeat' apply And.intro) <;> lia)
  k_with "call type:bytes" => (k_here; (with_reducible show wpAny _ _ (call (Value.type "bytes") [Value.ref _]) _ _ _); k_dflt (refine' b_make ?kbaF ?kbaN ?kbah ?kbal ?kbai ?kbar ?kban ?_; (case kbaF => k_asm); (case kbaN => k_asm); (case kbah => rfl); (case kbal => kba_isList); (case kbai => kba_listInts); (case kbar => kba_in); (case kban => kba_size)); intro _ _ _ _ _ _ _; (try dsimp only))
  k_with "compareOp Eq bytes bytes" => (k_here; refine b_eq (by assumption) (by assumption) ?_; (try dsimp only))
  k_with "compareOp NotEq bytes bytes" => (k_here; refine b_ne (by assumption) (by assumption) ?_; (try dsimp only))
  k_with "compareOp Eq bytes bytes" => (k_here; (with_reducible show wpAny _ _ (compareOp CmpOp.Eq (Value.bytes _ _) (Value.bytes #[] _)) _ _ _); refine b_eq_nil (by assumption) ?_; (try dsimp only))
  k_with "compareOp NotEq bytes bytes" => (k_here; (with_reducible show wpAny _ _ (compareOp CmpOp.NotEq (Value.bytes _ _) (Value.bytes #[] _)) _ _ _); refine b_ne_nil (by assumption) ?_; (try dsimp only))
  k_with "subscriptTail" => (k_here; (with_reducible show wpAny _ _ (subscriptTail _ _ (Value.bytes _ _) (Value.int _ _)) _ _ _); (refine b_item (by assumption) (by lia) (by lia) (by lia) ?_ (by with_unfolding_all rfl) (by intro _; with_unfolding_all rfl)); intro _ _; (try dsimp only [Int.reduceToNat]))
  k_with "subscriptTail" => (k_here; (with_reducible show wpAny _ _ (subscriptTail _ (Expr.Slice _ _ none _) (Value.bytes _ _) (Value.ref _)) _ _ _); (with_reducible rename Fr _ _ _ _ => F'); (with_reducible rename News _ _ _ _ => N'); (first | refine b_slice_hd (s := ⟨_, _, _, _, _⟩) F' N' (by assumption) (by lia) (by kba_size) ?_ (by with_unfolding_all rfl) (by intro _; with_unfolding_all rfl) | refine b_slice_tl (s := ⟨_, _, _, _, _⟩) F' N' (by assumption) (by lia) (by kba_size) ?_ (by with_unfolding_all rfl) (by intro _; with_unfolding_all rfl) | refine b_slice_md (s := ⟨_, _, _, _, _⟩) F' N' (by assumption) (by lia) (by lia) (by kba_size) ?_ (by with_unfolding_all rfl) (by intro _; with_unfolding_all rfl) | refine b_slice (s := ⟨_, _, _, _, _⟩) F' N' (by assumption) (by constructor) (by constructor) (by kba_size) ?_ (by with_unfolding_all rfl) (by intro _; with_unfolding_all rfl)); intro _ _ _ _ F' N' hB'; (try dsimp only [Int.reduceToNat] at hB'); (try dsimp only))
  trivial

theorem kf_ : Con ⟨fun _ _ => 0, { strHash := fun _ => 0, shareClass := fun _ => 0, mergeTok := fun t => t, idOf := fun _ => 0, idOfShared := fun _ _ => 0, followText := fun _ => false, idOfImm := fun _ => 0 }⟩ .none [] 0 [] (fun _ _ => True) ∨ True := by
  unfold Con
  k_fill
  exact .inr trivial
/-! bodies walked once over a frame of constants: «wit» gives a thing at which a law fails, if it fails at all; so no variable of a walk is bound -/
/-- the frame within a body: its own depth, its namespace, what it goes on with -/
structure Fra where
  dp : Nat
  un : Nat
  gd : Option (List Code)
  outer : List Env
  A₀ : Around
  base : Heap
  g : Heap
  L : Addr
  s : Shared
  R : Flow → Shared → Prop
  E : Value → Shared → Prop
  p : Program
  loose : List Str
  mean : ExcName → Option Value
  mg : Str → Option Value
  mb : Str → Option Value
  co : Obj
/-- a body walked: what it gives back is told to the rest -/
noncomputable def Bod (w : World) (qual : Str) (scope : Scope) (f : Addr) (cdv : Value) (body : List Stmt) (binds : List (Str × Value)) (D : Nat) (N₀ : Led) (Post : Value → Led → Prop) (F : Fra) : Prop :=
  Below F.A₀ F.base F.outer F.g → Fr F.g F.L F.s.heap (fun y => binds.reverse.lookup y) → (Mine.hk.heap_1 w.params).In F.g → News F.g F.L F.s.heap N₀ → Top F.p F.loose F.mean F.mg F.mb F.g →
    F.dp + D < recursionLimit + 1 → F.un + 8 * D < cLine + 8 →
    PassesOwn (model PySem.Challenge.rw_nu0131_01.row.prog w) (ktrTop F.dp F.un F.gd qual scope F.L f cdv [] F.outer) (envX qual scope F.L f cdv []) F.E →
    (∀ s', F.R (.ret .none) s' → F.R .next s') →
    (∀ {m'} r N₁ h' tk', Post r N₁ → Fr F.g F.L h' m' → News F.g F.L h' N₁ → F.R (.ret r) { F.s with heap := h', toks := tk' }) →
      wpAny (model PySem.Challenge.rw_nu0131_01.row.prog w) (ktrTop F.dp F.un F.gd qual scope F.L f cdv [] F.outer) (execs body (envX qual scope F.L f cdv [])) F.R F.E F.s
theorem Bod.con {w : World} {args : List Value} {D : Nat} {N₀ : Led} {Post : Value → Led → Prop}
    {name qual : Str} {params : Arguments} {body : List Stmt} {scope : Scope} {dV kV doc pm cdv ct oc : Value} {an od : Option Addr} {osl : Array (Option Value)} {f : Addr} {binds : List (Str × Value)}
    (ho : (Mine.hk.heap_1 w.params).lookup f = some ⟨oc, od, .func (fnOf name qual params body scope dV kV doc pm an cdv ct), osl⟩) (hcd : codeIn (Mine.hk.heap_1 w.params) cdv qual = true)
    (hbind : ∀ s, (Mine.hk.heap_1 w.params).In s.heap → BindsTo s (fnOf name qual params body scope dV kV doc pm an cdv ct) ⟨args, []⟩ binds) (hloc : ∀ y ∈ binds, scope.names.lookup y.1 = some .local)
    (hco : scope.isCoroutine = false) (hgen : scope.isGenerator = false) (hk : scope.kind = .function) (hcell : ∀ x ∈ scope.names, x.2 ≠ .cell)
    (hD : 1 ≤ D) (h : ∀ F, Bod w qual scope f cdv body binds D N₀ Post F) : Con w (.ref f) args D N₀ Post := by
  intro dp un gd cn cs a ccd cl outer A₀ base h₀ L m s Q E p loose mean mg mb B F X N T hk' hd hu hret
  refine wpAny_call ?_
  refine code_def B F X N T (A := ktrTop dp un gd cn cs L a ccd cl outer) (outer := outer) rfl rfl hk' ho hcd (show dp < recursionLimit by lia) (hbind s (X.keeps F.keep)) hloc ?_ hco hgen hk hcell
  intro g' L' h' FG' F' N' B' X' T'
  refine h ⟨dp + 1, un + 3, gd, _, _, base, g', L', _, _, _, p, loose, mean, mg, mb, listOf #[] 0⟩ B' F' X' N' T' (by show dp + 1 + D < recursionLimit + 1; lia) (by show un + 3 + 8 * D < cLine + 8; lia) (by passes_own) (fun _ x => x) ?_
  intro m' r N₁ h₂ tk' hP hF hN
  refine ⟨L', m', N₁, hF, hN, ?_⟩
  intro hF2 hN2
  exact hret _ _ _ _ hP hF2 hN2
noncomputable def fdOf (K : Frag) (f : Addr) : FuncData := match K.lookup f with | some ⟨_, _, .func fd, _⟩ => fd | _ => default
noncomputable def stOf (fd : FuncData) : List Stmt := match fd.body with | .stmts b => b | _ => []
noncomputable def bnOf (fd : FuncData) (args : List Value) : List (Str × Value) := (fd.params.args.map (·.arg)).zip args
theorem fdOf_is {K : Frag} {f : Addr} {oc : Value} {od : Option Addr} {fd : FuncData} {osl : Array (Option Value)} (ho : K.lookup f = some ⟨oc, od, .func fd, osl⟩) : fdOf K f = fd := by unfold fdOf; rw [ho]
/-- Bod, the text read out of the heap -/
noncomputable def BodK (w : World) (f : Addr) (args : List Value) (D : Nat) (N₀ : Led) (Post : Value → Led → Prop) (F : Fra) : Prop :=
  Bod w (fdOf (Mine.hk.heap_1 w.params) f).qualname (fdOf (Mine.hk.heap_1 w.params) f).scope f (fdOf (Mine.hk.heap_1 w.params) f).code (stOf (fdOf (Mine.hk.heap_1 w.params) f)) (bnOf (fdOf (Mine.hk.heap_1 w.params) f) args) D N₀ Post F
theorem BodK.enter {w : World} {args : List Value} {D : Nat} {N₀ : Led} {Post : Value → Led → Prop} {F : Fra}
    {name qual : Str} {params : Arguments} {body : List Stmt} {scope : Scope} {dV kV doc pm cdv ct oc : Value} {an od : Option Addr} {osl : Array (Option Value)} {f : Addr} {binds : List (Str × Value)}
    (ho : (Mine.hk.heap_1 w.params).lookup f = some ⟨oc, od, .func (fnOf name qual params body scope dV kV doc pm an cdv ct), osl⟩) (hb : (params.args.map (·.arg)).zip args = binds)
    (h : Bod w qual scope f cdv body binds D N₀ Post F) : BodK w f args D N₀ Post F := by
  unfold BodK; rw [fdOf_is ho]; subst hb; exact h
theorem BodK.con {w : World} {args : List Value} {D : Nat} {N₀ : Led} {Post : Value → Led → Prop}
    {name qual : Str} {params : Arguments} {body : List Stmt} {scope : Scope} {dV kV doc pm cdv ct oc : Value} {an od : Option Addr} {osl : Array (Option Value)} {f : Addr} {binds : List (Str × Value)}
    (ho : (Mine.hk.heap_1 w.params).lookup f = some ⟨oc, od, .func (fnOf name qual params body scope dV kV doc pm an cdv ct), osl⟩) (hcd : codeIn (Mine.hk.heap_1 w.params) cdv qual = true)
    (hb : (params.args.map (·.arg)).zip args = binds) (hq : ∀ s, (Mine.hk.heap_1 w.params).In s.heap → BindsTo s (fnOf name qual params body scope dV kV doc pm an cdv ct) ⟨args, []⟩ binds) (hloc : ∀ y ∈ binds, scope.names.lookup y.1 = some .local)
    (hco : scope.isCoroutine = false) (hgen : scope.isGenerator = false) (hk : scope.kind = .function) (hcell : ∀ x ∈ scope.names, x.2 ≠ .cell)
    (hD : 1 ≤ D) (h : ∀ F, BodK w f args D N₀ Post F) : Con w (.ref f) args D N₀ Post := by
  refine Bod.con ho hcd hq hloc hco hgen hk hcell hD fun F => ?_
  have h' := h F
  unfold BodK at h'; rw [fdOf_is ho] at h'; subst hb; exact h'
noncomputable def wit {α : Type} (x₀ : α) (P : α → Prop) : α := by
  classical exact if h : ∃ x, ¬ P x then h.choose else x₀
theorem wit_all {α : Type} {x₀ : α} {P : α → Prop} (h : P (wit x₀ P)) : ∀ x, P x := by
  intro x
  apply Classical.byContradiction
  intro hx
  have hex : ∃ x, ¬ P x := ⟨x, hx⟩
  have : wit x₀ P = hex.choose := by unfold wit; exact dif_pos hex
  rw [this] at h
  exact hex.choose_spec h
noncomputable def fra0 : Fra := ⟨0, 0, none, [], {}, {}, {}, 0, {}, fun _ _ => True, fun _ _ => True, default, [], fun _ => none, fun _ => none, fun _ => none, listOf #[] 0⟩
noncomputable def wrl0 : World := ⟨fun _ _ => 0, { strHash := fun _ => 0, shareClass := fun _ => 0, mergeTok := fun t => t, idOf := fun _ => 0, idOfShared := fun _ _ => 0, followText := fun _ => false, idOfImm := fun _ => 0 }⟩

/-- the same for a def with one cell -/
noncomputable def BodC (w : World) (qual : Str) (scope : Scope) (f : Addr) (cdv : Value) (body : List Stmt) (binds : List (Str × Value)) (x : Str) (D : Nat) (N₀ : Led) (Post : Value → Led → Prop) (F : Fra) : Prop :=
  Below F.A₀ F.base F.outer F.g → Fr F.g F.L F.s.heap (bindL (envX qual scope F.L f cdv [(x, F.L + 1)]).kindOf binds fun _ => none) → (Mine.hk.heap_1 w.params).In F.g → News F.g F.L F.s.heap ((F.L + 1, F.co) :: N₀) → F.co.data = .cell (bindC (envX qual scope F.L f cdv [(x, F.L + 1)]).kindOf binds (fun _ => none) x) → Top F.p F.loose F.mean F.mg F.mb F.g →
    F.dp + D < recursionLimit + 1 → F.un + 8 * D < cLine + 8 → (∀ p ∈ N₀, p.1 < F.L) →
    PassesOwn (model PySem.Challenge.rw_nu0131_01.row.prog w) (ktrTop F.dp F.un F.gd qual scope F.L f cdv [(x, F.L + 1)] F.outer) (envX qual scope F.L f cdv [(x, F.L + 1)]) F.E →
    (∀ s', F.R (.ret .none) s' → F.R .next s') →
    (∀ {m'} r N₁ h' tk', Post r N₁ → Fr F.g F.L h' m' → News F.g F.L h' N₁ → F.R (.ret r) { F.s with heap := h', toks := tk' }) →
      wpAny (model PySem.Challenge.rw_nu0131_01.row.prog w) (ktrTop F.dp F.un F.gd qual scope F.L f cdv [(x, F.L + 1)] F.outer) (execs body (envX qual scope F.L f cdv [(x, F.L + 1)])) F.R F.E F.s
theorem BodC.con {w : World} {args : List Value} {D : Nat} {N₀ : Led} {Post : Value → Led → Prop}
    {name qual : Str} {params : Arguments} {body : List Stmt} {scope : Scope} {dV kV doc pm cdv ct oc : Value} {an od : Option Addr} {osl : Array (Option Value)} {f : Addr} {binds : List (Str × Value)} {x : Str}
    (ho : (Mine.hk.heap_1 w.params).lookup f = some ⟨oc, od, .func (fnOf name qual params body scope dV kV doc pm an cdv ct), osl⟩) (hcd : codeIn (Mine.hk.heap_1 w.params) cdv qual = true)
    (hbind : ∀ s, (Mine.hk.heap_1 w.params).In s.heap → BindsTo s (fnOf name qual params body scope dV kV doc pm an cdv ct) ⟨args, []⟩ binds) (hloc : (binds.all fun y => scope.names.lookup y.1 == some .local || scope.names.lookup y.1 == some .cell) = true)
    (hcl : ∀ L, cellsFrom (L + 1) scope.names [] = [(x, L + 1)]) (hnd : ((cellsFrom 0 scope.names []).map (·.1)).Nodup)
    (hco : scope.isCoroutine = false) (hgen : scope.isGenerator = false) (hk : scope.kind = .function)
    (hD : 1 ≤ D) (h : ∀ F, BodC w qual scope f cdv body binds x D N₀ Post F) : Con w (.ref f) args D N₀ Post := by
  intro dp un gd cn cs a ccd cl outer A₀ base h₀ L m s Q E p loose mean mg mb B F X N T hk' hd hu hret
  refine wpAny_call ?_
  refine code_defC B F X N T (A := ktrTop dp un gd cn cs L a ccd cl outer) (outer := outer) rfl rfl hk' ho hcd (show dp < recursionLimit by lia) (hbind s (X.keeps F.keep)) hloc hnd ?_ hco hgen hk
  intro g' L' h' tk' cells' FG' F' N' Y' B' X' T' l1
  have he : envOfC qual scope L' f cdv = envX qual scope L' f cdv [(x, L' + 1)] := by
    show envX qual scope L' f cdv (cellsFrom (L' + 1) scope.names []) = _
    rw [hcl]
  rw [he] at F' Y' ⊢
  rw [hcl] at Y'
  obtain ⟨o', rfl, hd'⟩ := CellsAre.one Y'
  refine h ⟨dp + 1, un + 3, gd, _, _, base, g', L', _, _, _, p, loose, mean, mg, mb, o'⟩ B' F' X' N' hd' T' (by show dp + 1 + D < recursionLimit + 1; lia) (by show un + 3 + 8 * D < cLine + 8; lia) l1 (by passes_own) (fun _ x => x) ?_
  intro m' r N₁ h₂ tk' hP hF hN
  refine ⟨L', m', N₁, hF, hN, ?_⟩
  intro hF2 hN2
  exact hret _ _ _ _ hP hF2 hN2
noncomputable def BodKC (w : World) (f : Addr) (args : List Value) (x : Str) (D : Nat) (N₀ : Led) (Post : Value → Led → Prop) (F : Fra) : Prop :=
  BodC w (fdOf (Mine.hk.heap_1 w.params) f).qualname (fdOf (Mine.hk.heap_1 w.params) f).scope f (fdOf (Mine.hk.heap_1 w.params) f).code (stOf (fdOf (Mine.hk.heap_1 w.params) f)) (bnOf (fdOf (Mine.hk.heap_1 w.params) f) args) x D N₀ Post F
theorem BodKC.enter {w : World} {args : List Value} {x : Str} {D : Nat} {N₀ : Led} {Post : Value → Led → Prop} {F : Fra}
    {name qual : Str} {params : Arguments} {body : List Stmt} {scope : Scope} {dV kV doc pm cdv ct oc : Value} {an od : Option Addr} {osl : Array (Option Value)} {f : Addr} {binds : List (Str × Value)}
    (ho : (Mine.hk.heap_1 w.params).lookup f = some ⟨oc, od, .func (fnOf name qual params body scope dV kV doc pm an cdv ct), osl⟩) (hb : (params.args.map (·.arg)).zip args = binds)
    (h : BodC w qual scope f cdv body binds x D N₀ Post F) : BodKC w f args x D N₀ Post F := by
  unfold BodKC; rw [fdOf_is ho]; subst hb; exact h
theorem BodKC.con {w : World} {args : List Value} {x : Str} {D : Nat} {N₀ : Led} {Post : Value → Led → Prop}
    {name qual : Str} {params : Arguments} {body : List Stmt} {scope : Scope} {dV kV doc pm cdv ct oc : Value} {an od : Option Addr} {osl : Array (Option Value)} {f : Addr} {binds : List (Str × Value)}
    (ho : (Mine.hk.heap_1 w.params).lookup f = some ⟨oc, od, .func (fnOf name qual params body scope dV kV doc pm an cdv ct), osl⟩) (hcd : codeIn (Mine.hk.heap_1 w.params) cdv qual = true)
    (hb : (params.args.map (·.arg)).zip args = binds) (hq : ∀ s, (Mine.hk.heap_1 w.params).In s.heap → BindsTo s (fnOf name qual params body scope dV kV doc pm an cdv ct) ⟨args, []⟩ binds) (hloc : (binds.all fun y => scope.names.lookup y.1 == some .local || scope.names.lookup y.1 == some .cell) = true)
    (hcl : ∀ L, cellsFrom (L + 1) scope.names [] = [(x, L + 1)]) (hnd : ((cellsFrom 0 scope.names []).map (·.1)).Nodup)
    (hco : scope.isCoroutine = false) (hgen : scope.isGenerator = false) (hk : scope.kind = .function)
    (hD : 1 ≤ D) (h : ∀ F, BodKC w f args x D N₀ Post F) : Con w (.ref f) args D N₀ Post := by
  refine BodC.con ho hcd hq hloc hcl hnd hco hgen hk hD fun F => ?_
  have h' := h F
  unfold BodKC at h'; rw [fdOf_is ho] at h'; subst hb; exact h'
theorem reg_p02a_0 : True := by
  k_with "ite" => (k_here; (fail_if_success k_openite); first
  | (refine ite_pos (by with_reducible assumption) ?_)
  | (refine ite_neg (by with_reducible assumption) ?_)
  | (refine ite_isFalse (by with_reducible assumption) ?_)
  | (refine ite_pos (by k_dec) ?_)
  | (refine ite_neg (by k_dec) ?_))
  trivial

/-! contracts of octets.py -/
noncomputable def w16 (n : Int) : List Int := [n / 256 % 256, n % 256]
noncomputable def w32 (n : Int) : List Int := w16 (n / 65536) ++ w16 n
theorem w16_len (n : Int) : (w16 n).length = 2 := rfl
theorem w32_len (n : Int) : (w32 n).length = 4 := rfl
theorem reg_p03_0 : True := by
  k_with "kba_size" => first | assumption | k_extra "size" | lia | ((try simp only [List.length_cons, List.length_nil, List.length_append, List.length_replicate, List.length_take, List.length_drop, w16_len, w32_len]); lia)
  k_with "binaryOp Add bytes bytes" => (k_here; (with_reducible show wpAny _ _ (binaryOp Operator.Add (Value.bytes _ _) (Value.bytes _ _)) _ _ _); (refine b_add (by assumption) (by assumption) (by kba_size) ?_); intro _ _ _ _; (try dsimp only))
  k_with "call builtin:len" => (k_here; (with_reducible show wpAny _ _ (call (Value.builtin "len") [Value.bytes _ _]) _ _ _); (refine b_len (by assumption) (by kba_size) ?_); (try dsimp only))
  trivial
noncomputable def put16_c_S (z : Fra × World × Int × TC × Led) : Prop :=
  (fun (F9 : Fra) (w : World) (n : Int) (tn : TC) (news : Led) => BodK w 72 [.int n tn] 1 news (fun r N => N = news ∧ ∃ b t, r = .bytes b t ∧ BI b = w16 n) F9) (z.1) (z.2.1) (z.2.2.1) (z.2.2.2.1) (z.2.2.2.2)
@[irreducible] noncomputable def put16_c_z : Fra × World × Int × TC × Led := wit (fra0, wrl0, 0, 0, []) put16_c_S
namespace put16_c_
@[irreducible] noncomputable def F9 : Fra := put16_c_z.1
@[irreducible] noncomputable def w : World := put16_c_z.2.1
@[irreducible] noncomputable def n : Int := put16_c_z.2.2.1
@[irreducible] noncomputable def tn : TC := put16_c_z.2.2.2.1
@[irreducible] noncomputable def news : Led := put16_c_z.2.2.2.2
theorem run : BodK w 72 [.int n tn] 1 news (fun r N => N = news ∧ ∃ b t, r = .bytes b t ∧ BI b = w16 n) F9 := by

  refine' BodK.enter ?ho ?hb ?_; (case ho => k_is); (case hb => first | (dsimp only [List.map, List.zip, List.zipWith]; done) | (dsimp only [List.map, List.zip, List.zipWith]; exact rfl))
  intro B' F' X' N' T' hd hu hPE hnx hret
  k_steps
  ((try with_reducible refine hnx _ ?_); exact hret _ _ _ _ ⟨rfl, _, _, rfl, by assumption⟩ (by k_asm) (by first | k_asm | exact news_subL (by assumption) (by k_extra "sub") | exact news_sub (by assumption) (by intro p hp; (try simp only [List.mem_cons, List.mem_append] at hp ⊢); grind)))
end put16_c_
theorem put16_c (w : World) (n : Int) (tn : TC) (news : Led)  : Con w (.ref 72) [.int n tn] 1 news (fun r N => N = news ∧ ∃ b t, r = .bytes b t ∧ BI b = w16 n) := by
  refine' BodK.con ?ho ?hcd ?hb ?hq ?hloc ?hco ?hgen ?hk ?hcell ?hD (fun F9 => @wit_all _ (fra0, wrl0, 0, 0, []) put16_c_S (by with_unfolding_all exact put16_c_.run) (F9, w, n, tn, news)); (case ho => k_is); (case hcd => k_is); (case hb => first | (dsimp only [List.map, List.zip, List.zipWith]; done) | (dsimp only [List.map, List.zip, List.zipWith]; exact rfl)); (case hq => first | exact fun _ _ => BindsTo.of_eq rfl | (intro s7 X7; exact binds_K X7 rfl (by k_is) rfl rfl rfl)); (case hloc => exact locs rfl); (case hco => exact rfl); (case hgen => exact rfl); (case hk => exact rfl); (case hcell => decide); (case hD => decide)

theorem put16_c_k (w : World) (n : Int) (tn : TC) (news : Led)  :
   Kon w (.ref 72) [.int n tn] 1 news (fun K9 => ∀ b t, (BI b = w16 n) → K9 (.bytes b t) (news))  :=
  Con.kon (put16_c w n tn news) (by
    rintro K9 g9 r9 N9 ⟨rfl, v0, v1, rfl, v2⟩
    exact g9 v0 v1 v2)
theorem reg_p03_1 : True := by
  k_with "call ref" => (k_here; (with_reducible show wpAny _ _ (call (Value.ref 72) _) _ _ _); k_dflt (refine' Kon.go ?_ ?_ ?_ ?_ ?_ ?_ ?_ ?_ ?_ ?_; walk_at "side 0"; (any_goals ((with_reducible show Kon _ _ _ _ _ _); exact (put16_c_k _ _ _ _))); walk_at "side 9"); intro _ _ _ _ _ _ _)
  trivial
noncomputable def put32_c_S (z : Fra × World × Int × TC × Led) : Prop :=
  (fun (F9 : Fra) (w : World) (n : Int) (tn : TC) (news : Led) => BodK w 79 [.int n tn] 2 news (fun r N => N = news ∧ ∃ b t, r = .bytes b t ∧ BI b = w32 n) F9) (z.1) (z.2.1) (z.2.2.1) (z.2.2.2.1) (z.2.2.2.2)
@[irreducible] noncomputable def put32_c_z : Fra × World × Int × TC × Led := wit (fra0, wrl0, 0, 0, []) put32_c_S
namespace put32_c_
@[irreducible] noncomputable def F9 : Fra := put32_c_z.1
@[irreducible] noncomputable def w : World := put32_c_z.2.1
@[irreducible] noncomputable def n : Int := put32_c_z.2.2.1
@[irreducible] noncomputable def tn : TC := put32_c_z.2.2.2.1
@[irreducible] noncomputable def news : Led := put32_c_z.2.2.2.2
theorem run : BodK w 79 [.int n tn] 2 news (fun r N => N = news ∧ ∃ b t, r = .bytes b t ∧ BI b = w32 n) F9 := by

  refine' BodK.enter ?ho ?hb ?_; (case ho => k_is); (case hb => first | (dsimp only [List.map, List.zip, List.zipWith]; done) | (dsimp only [List.map, List.zip, List.zipWith]; exact rfl))
  intro B' F' X' N' T' hd hu hPE hnx hret
  k_steps
  ((try with_reducible refine hnx _ ?_); exact hret _ _ _ _ ⟨rfl, _, _, rfl, by assumption⟩ (by k_asm) (by first | k_asm | exact news_subL (by assumption) (by k_extra "sub") | exact news_sub (by assumption) (by intro p hp; (try simp only [List.mem_cons, List.mem_append] at hp ⊢); grind)))
end put32_c_
theorem put32_c (w : World) (n : Int) (tn : TC) (news : Led)  : Con w (.ref 79) [.int n tn] 2 news (fun r N => N = news ∧ ∃ b t, r = .bytes b t ∧ BI b = w32 n) := by
  refine' BodK.con ?ho ?hcd ?hb ?hq ?hloc ?hco ?hgen ?hk ?hcell ?hD (fun F9 => @wit_all _ (fra0, wrl0, 0, 0, []) put32_c_S (by with_unfolding_all exact put32_c_.run) (F9, w, n, tn, news)); (case ho => k_is); (case hcd => k_is); (case hb => first | (dsimp only [List.map, List.zip, List.zipWith]; done) | (dsimp only [List.map, List.zip, List.zipWith]; exact rfl)); (case hq => first | exact fun _ _ => BindsTo.of_eq rfl | (intro s7 X7; exact binds_K X7 rfl (by k_is) rfl rfl rfl)); (case hloc => exact locs rfl); (case hco => exact rfl); (case hgen => exact rfl); (case hk => exact rfl); (case hcell => decide); (case hD => decide)

theorem put32_c_k (w : World) (n : Int) (tn : TC) (news : Led)  :
   Kon w (.ref 79) [.int n tn] 2 news (fun K9 => ∀ b t, (BI b = w32 n) → K9 (.bytes b t) (news))  :=
  Con.kon (put32_c w n tn news) (by
    rintro K9 g9 r9 N9 ⟨rfl, v0, v1, rfl, v2⟩
    exact g9 v0 v1 v2)
theorem reg_p03_2 : True := by
  k_with "call ref" => (k_here; (with_reducible show wpAny _ _ (call (Value.ref 79) _) _ _ _); k_dflt (refine' Kon.go ?_ ?_ ?_ ?_ ?_ ?_ ?_ ?_ ?_ ?_; walk_at "side 0"; (any_goals ((with_reducible show Kon _ _ _ _ _ _); exact (put32_c_k _ _ _ _))); walk_at "side 9"); intro _ _ _ _ _ _ _)
  trivial
noncomputable def need_c_S (z : Fra × World × Array UInt8 × TC × List Int × Int × Int × TC × TC × Led) : Prop :=
  (fun (F9 : Fra) (w : World) (b : Array UInt8) (tb : TC) (ks : List Int) (at' : Int) (size : Int) (ta : TC) (ts : TC) (news : Led) => ∀ (hb : BI b = ks), ∀ (h0 : 0 ≤ at'), ∀ (hs : 0 ≤ size), ∀ (hs2 : size ≤ 100000), ∀ (h1 : at' + size ≤ ks.length), ∀ (hl : ks.length ≤ 100000), BodK w 86 [.bytes b tb, .int at' ta, .int size ts] 1 news (fun r N => N = news ∧ r = .none) F9) (z.1) (z.2.1) (z.2.2.1) (z.2.2.2.1) (z.2.2.2.2.1) (z.2.2.2.2.2.1) (z.2.2.2.2.2.2.1) (z.2.2.2.2.2.2.2.1) (z.2.2.2.2.2.2.2.2.1) (z.2.2.2.2.2.2.2.2.2)
@[irreducible] noncomputable def need_c_z : Fra × World × Array UInt8 × TC × List Int × Int × Int × TC × TC × Led := wit (fra0, wrl0, #[], 0, [], 0, 0, 0, 0, []) need_c_S
namespace need_c_
@[irreducible] noncomputable def F9 : Fra := need_c_z.1
@[irreducible] noncomputable def w : World := need_c_z.2.1
@[irreducible] noncomputable def b : Array UInt8 := need_c_z.2.2.1
@[irreducible] noncomputable def tb : TC := need_c_z.2.2.2.1
@[irreducible] noncomputable def ks : List Int := need_c_z.2.2.2.2.1
@[irreducible] noncomputable def at' : Int := need_c_z.2.2.2.2.2.1
@[irreducible] noncomputable def size : Int := need_c_z.2.2.2.2.2.2.1
@[irreducible] noncomputable def ta : TC := need_c_z.2.2.2.2.2.2.2.1
@[irreducible] noncomputable def ts : TC := need_c_z.2.2.2.2.2.2.2.2.1
@[irreducible] noncomputable def news : Led := need_c_z.2.2.2.2.2.2.2.2.2
theorem run : ∀ (hb : BI b = ks), ∀ (h0 : 0 ≤ at'), ∀ (hs : 0 ≤ size), ∀ (hs2 : size ≤ 100000), ∀ (h1 : at' + size ≤ ks.length), ∀ (hl : ks.length ≤ 100000), BodK w 86 [.bytes b tb, .int at' ta, .int size ts] 1 news (fun r N => N = news ∧ r = .none) F9 := by
  intro hb h0 hs hs2 h1 hl
  refine' BodK.enter ?ho ?hb ?_; (case ho => k_is); (case hb => first | (dsimp only [List.map, List.zip, List.zipWith]; done) | (dsimp only [List.map, List.zip, List.zipWith]; exact rfl))
  intro B' F' X' N' T' hd hu hPE hnx hret
  k_steps
  all_goals (first | (exfalso; lia) | ((try with_reducible refine hnx _ ?_); exact hret _ _ _ _ ⟨rfl, rfl⟩ (by k_asm) (by first | k_asm | exact news_subL (by assumption) (by k_extra "sub") | exact news_sub (by assumption) (by intro p hp; (try simp only [List.mem_cons, List.mem_append] at hp ⊢); grind))))
end need_c_
theorem need_c (w : World) (b : Array UInt8) (tb : TC) (ks : List Int) (at' size : Int) (ta ts : TC) (news : Led) (hb : BI b = ks) (h0 : 0 ≤ at') (hs : 0 ≤ size) (hs2 : size ≤ 100000) (h1 : at' + size ≤ ks.length) (hl : ks.length ≤ 100000)  : Con w (.ref 86) [.bytes b tb, .int at' ta, .int size ts] 1 news (fun r N => N = news ∧ r = .none) := by
  refine' BodK.con ?ho ?hcd ?hb ?hq ?hloc ?hco ?hgen ?hk ?hcell ?hD (fun F9 => @wit_all _ (fra0, wrl0, #[], 0, [], 0, 0, 0, 0, []) need_c_S (by with_unfolding_all exact need_c_.run) (F9, w, b, tb, ks, at', size, ta, ts, news) hb h0 hs hs2 h1 hl); (case ho => k_is); (case hcd => k_is); (case hb => first | (dsimp only [List.map, List.zip, List.zipWith]; done) | (dsimp only [List.map, List.zip, List.zipWith]; exact rfl)); (case hq => first | exact fun _ _ => BindsTo.of_eq rfl | (intro s7 X7; exact binds_K X7 rfl (by k_is) rfl rfl rfl)); (case hloc => exact locs rfl); (case hco => exact rfl); (case hgen => exact rfl); (case hk => exact rfl); (case hcell => decide); (case hD => decide)

theorem need_c_k (w : World) (b : Array UInt8) (tb : TC) (ks : List Int) (at' size : Int) (ta ts : TC) (news : Led) (hb : BI b = ks) (h0 : 0 ≤ at') (hs : 0 ≤ size) (hs2 : size ≤ 100000) (h1 : at' + size ≤ ks.length) (hl : ks.length ≤ 100000)  :
   Kon w (.ref 86) [.bytes b tb, .int at' ta, .int size ts] 1 news (fun K9 =>  K9 (.none) (news))  :=
  Con.kon (need_c w b tb ks at' size ta ts news hb h0 hs hs2 h1 hl) (by
    rintro K9 g9 r9 N9 ⟨rfl, rfl⟩
    exact g9)
theorem reg_p03_3 : True := by
  k_with "call ref" => (k_here; (with_reducible show wpAny _ _ (call (Value.ref 86) _) _ _ _); k_dflt (refine' Kon.go ?_ ?_ ?_ ?_ ?_ ?_ ?_ ?_ ?_ ?_; walk_at "side 0"; (any_goals ((with_reducible show Kon _ _ _ _ _ _); exact (need_c_k _ _ _ _ _ _ _ _ _ (by assumption) (by lia) (by lia) (by lia) (by kba_size) (by kba_size)))); walk_at "side 9"); intro _ _ _ _)
  trivial
noncomputable def g16 (ks : List Int) (i : Nat) : Int := ks.getD i 0 * 256 + ks.getD (i + 1) 0
theorem g16_in {ks : List Int} (h : InB ks) (i : Nat) : 0 ≤ g16 ks i ∧ g16 ks i < 65536 := by
  have a := getD_inB h i
  have b := getD_inB h (i + 1)
  unfold g16; lia
noncomputable def get16_c_S (z : Fra × World × Array UInt8 × TC × List Int × Int × TC × Led) : Prop :=
  (fun (F9 : Fra) (w : World) (b : Array UInt8) (tb : TC) (ks : List Int) (at' : Int) (ta : TC) (news : Led) => ∀ (hb : BI b = ks), ∀ (h0 : 0 ≤ at'), ∀ (h1 : at' + 2 ≤ ks.length), ∀ (hl : ks.length ≤ 100000), BodK w 93 [.bytes b tb, .int at' ta] 2 news (fun r N => N = news ∧ ∃ t, r = .int (g16 ks at'.toNat) t) F9) (z.1) (z.2.1) (z.2.2.1) (z.2.2.2.1) (z.2.2.2.2.1) (z.2.2.2.2.2.1) (z.2.2.2.2.2.2.1) (z.2.2.2.2.2.2.2)
@[irreducible] noncomputable def get16_c_z : Fra × World × Array UInt8 × TC × List Int × Int × TC × Led := wit (fra0, wrl0, #[], 0, [], 0, 0, []) get16_c_S
namespace get16_c_
@[irreducible] noncomputable def F9 : Fra := get16_c_z.1
@[irreducible] noncomputable def w : World := get16_c_z.2.1
@[irreducible] noncomputable def b : Array UInt8 := get16_c_z.2.2.1
@[irreducible] noncomputable def tb : TC := get16_c_z.2.2.2.1
@[irreducible] noncomputable def ks : List Int := get16_c_z.2.2.2.2.1
@[irreducible] noncomputable def at' : Int := get16_c_z.2.2.2.2.2.1
@[irreducible] noncomputable def ta : TC := get16_c_z.2.2.2.2.2.2.1
@[irreducible] noncomputable def news : Led := get16_c_z.2.2.2.2.2.2.2
theorem run : ∀ (hb : BI b = ks), ∀ (h0 : 0 ≤ at'), ∀ (h1 : at' + 2 ≤ ks.length), ∀ (hl : ks.length ≤ 100000), BodK w 93 [.bytes b tb, .int at' ta] 2 news (fun r N => N = news ∧ ∃ t, r = .int (g16 ks at'.toNat) t) F9 := by
  intro hb h0 h1 hl
  have hB := inB_of hb
  have i1 := getD_inB hB at'.toNat
  have i2 := getD_inB hB (at' + 1).toNat
  refine' BodK.enter ?ho ?hb ?_; (case ho => k_is); (case hb => first | (dsimp only [List.map, List.zip, List.zipWith]; done) | (dsimp only [List.map, List.zip, List.zipWith]; exact rfl))
  intro B' F' X' N' T' hd hu hPE hnx hret
  k_steps
  ((try with_reducible refine hnx _ ?_); exact hret _ _ _ _ ⟨rfl, _, by rw [toNat_1 (by assumption)]; rfl⟩ (by k_asm) (by first | k_asm | exact news_subL (by assumption) (by k_extra "sub") | exact news_sub (by assumption) (by intro p hp; (try simp only [List.mem_cons, List.mem_append] at hp ⊢); grind)))
end get16_c_
theorem get16_c (w : World) (b : Array UInt8) (tb : TC) (ks : List Int) (at' : Int) (ta : TC) (news : Led) (hb : BI b = ks) (h0 : 0 ≤ at') (h1 : at' + 2 ≤ ks.length) (hl : ks.length ≤ 100000)  : Con w (.ref 93) [.bytes b tb, .int at' ta] 2 news (fun r N => N = news ∧ ∃ t, r = .int (g16 ks at'.toNat) t) := by
  refine' BodK.con ?ho ?hcd ?hb ?hq ?hloc ?hco ?hgen ?hk ?hcell ?hD (fun F9 => @wit_all _ (fra0, wrl0, #[], 0, [], 0, 0, []) get16_c_S (by with_unfolding_all exact get16_c_.run) (F9, w, b, tb, ks, at', ta, news) hb h0 h1 hl); (case ho => k_is); (case hcd => k_is); (case hb => first | (dsimp only [List.map, List.zip, List.zipWith]; done) | (dsimp only [List.map, List.zip, List.zipWith]; exact rfl)); (case hq => first | exact fun _ _ => BindsTo.of_eq rfl | (intro s7 X7; exact binds_K X7 rfl (by k_is) rfl rfl rfl)); (case hloc => exact locs rfl); (case hco => exact rfl); (case hgen => exact rfl); (case hk => exact rfl); (case hcell => decide); (case hD => decide)

theorem get16_c_k (w : World) (b : Array UInt8) (tb : TC) (ks : List Int) (at' : Int) (ta : TC) (news : Led) (hb : BI b = ks) (h0 : 0 ≤ at') (h1 : at' + 2 ≤ ks.length) (hl : ks.length ≤ 100000)  :
   Kon w (.ref 93) [.bytes b tb, .int at' ta] 2 news (fun K9 => ∀ t, K9 (.int (g16 ks at'.toNat) t) (news))  :=
  Con.kon (get16_c w b tb ks at' ta news hb h0 h1 hl) (by
    rintro K9 g9 r9 N9 ⟨rfl, v0, rfl⟩
    exact g9 v0)
theorem reg_p03_4 : True := by
  k_with "call ref" => (k_here; (with_reducible show wpAny _ _ (call (Value.ref 93) _) _ _ _); k_dflt (refine' Kon.go ?_ ?_ ?_ ?_ ?_ ?_ ?_ ?_ ?_ ?_; walk_at "side 0"; (any_goals ((with_reducible show Kon _ _ _ _ _ _); exact (get16_c_k _ _ _ _ _ _ _ (by assumption) (by lia) (by kba_size) (by kba_size)))); walk_at "side 9"); intro _ _ _ _ _; (try dsimp only [Int.reduceToNat, Int.reduceAdd]))
  trivial
noncomputable def get32_c_S (z : Fra × World × Array UInt8 × TC × List Int × Int × TC × Led) : Prop :=
  (fun (F9 : Fra) (w : World) (b : Array UInt8) (tb : TC) (ks : List Int) (at' : Int) (ta : TC) (news : Led) => ∀ (hb : BI b = ks), ∀ (h0 : 0 ≤ at'), ∀ (h1 : at' + 4 ≤ ks.length), ∀ (hl : ks.length ≤ 100000), BodK w 100 [.bytes b tb, .int at' ta] 3 news (fun r N => N = news ∧ ∃ t, r = .int (g16 ks at'.toNat * 65536 + g16 ks (at'.toNat + 2)) t) F9) (z.1) (z.2.1) (z.2.2.1) (z.2.2.2.1) (z.2.2.2.2.1) (z.2.2.2.2.2.1) (z.2.2.2.2.2.2.1) (z.2.2.2.2.2.2.2)
@[irreducible] noncomputable def get32_c_z : Fra × World × Array UInt8 × TC × List Int × Int × TC × Led := wit (fra0, wrl0, #[], 0, [], 0, 0, []) get32_c_S
namespace get32_c_
@[irreducible] noncomputable def F9 : Fra := get32_c_z.1
@[irreducible] noncomputable def w : World := get32_c_z.2.1
@[irreducible] noncomputable def b : Array UInt8 := get32_c_z.2.2.1
@[irreducible] noncomputable def tb : TC := get32_c_z.2.2.2.1
@[irreducible] noncomputable def ks : List Int := get32_c_z.2.2.2.2.1
@[irreducible] noncomputable def at' : Int := get32_c_z.2.2.2.2.2.1
@[irreducible] noncomputable def ta : TC := get32_c_z.2.2.2.2.2.2.1
@[irreducible] noncomputable def news : Led := get32_c_z.2.2.2.2.2.2.2
theorem run : ∀ (hb : BI b = ks), ∀ (h0 : 0 ≤ at'), ∀ (h1 : at' + 4 ≤ ks.length), ∀ (hl : ks.length ≤ 100000), BodK w 100 [.bytes b tb, .int at' ta] 3 news (fun r N => N = news ∧ ∃ t, r = .int (g16 ks at'.toNat * 65536 + g16 ks (at'.toNat + 2)) t) F9 := by
  intro hb h0 h1 hl
  have hB := inB_of hb
  have i1 := g16_in hB at'.toNat
  have i2 := g16_in hB (at'.toNat + 2)
  have e2 : (at' + 2).toNat = at'.toNat + 2 := by lia
  have i3 := g16_in hB (at' + 2).toNat
  refine' BodK.enter ?ho ?hb ?_; (case ho => k_is); (case hb => first | (dsimp only [List.map, List.zip, List.zipWith]; done) | (dsimp only [List.map, List.zip, List.zipWith]; exact rfl))
  intro B' F' X' N' T' hd hu hPE hnx hret
  k_steps
  ((try with_reducible refine hnx _ ?_); exact hret _ _ _ _ ⟨rfl, _, by rw [e2]⟩ (by k_asm) (by first | k_asm | exact news_subL (by assumption) (by k_extra "sub") | exact news_sub (by assumption) (by intro p hp; (try simp only [List.mem_cons, List.mem_append] at hp ⊢); grind)))
end get32_c_
theorem get32_c (w : World) (b : Array UInt8) (tb : TC) (ks : List Int) (at' : Int) (ta : TC) (news : Led) (hb : BI b = ks) (h0 : 0 ≤ at') (h1 : at' + 4 ≤ ks.length) (hl : ks.length ≤ 100000)  : Con w (.ref 100) [.bytes b tb, .int at' ta] 3 news (fun r N => N = news ∧ ∃ t, r = .int (g16 ks at'.toNat * 65536 + g16 ks (at'.toNat + 2)) t) := by
  refine' BodK.con ?ho ?hcd ?hb ?hq ?hloc ?hco ?hgen ?hk ?hcell ?hD (fun F9 => @wit_all _ (fra0, wrl0, #[], 0, [], 0, 0, []) get32_c_S (by with_unfolding_all exact get32_c_.run) (F9, w, b, tb, ks, at', ta, news) hb h0 h1 hl); (case ho => k_is); (case hcd => k_is); (case hb => first | (dsimp only [List.map, List.zip, List.zipWith]; done) | (dsimp only [List.map, List.zip, List.zipWith]; exact rfl)); (case hq => first | exact fun _ _ => BindsTo.of_eq rfl | (intro s7 X7; exact binds_K X7 rfl (by k_is) rfl rfl rfl)); (case hloc => exact locs rfl); (case hco => exact rfl); (case hgen => exact rfl); (case hk => exact rfl); (case hcell => decide); (case hD => decide)

theorem get32_c_k (w : World) (b : Array UInt8) (tb : TC) (ks : List Int) (at' : Int) (ta : TC) (news : Led) (hb : BI b = ks) (h0 : 0 ≤ at') (h1 : at' + 4 ≤ ks.length) (hl : ks.length ≤ 100000)  :
   Kon w (.ref 100) [.bytes b tb, .int at' ta] 3 news (fun K9 => ∀ t, K9 (.int (g16 ks at'.toNat * 65536 + g16 ks (at'.toNat + 2)) t) (news))  :=
  Con.kon (get32_c w b tb ks at' ta news hb h0 h1 hl) (by
    rintro K9 g9 r9 N9 ⟨rfl, v0, rfl⟩
    exact g9 v0)
theorem reg_p03_5 : True := by
  k_with "call ref" => (k_here; (with_reducible show wpAny _ _ (call (Value.ref 100) _) _ _ _); k_dflt (refine' Kon.go ?_ ?_ ?_ ?_ ?_ ?_ ?_ ?_ ?_ ?_; walk_at "side 0"; (any_goals ((with_reducible show Kon _ _ _ _ _ _); exact (get32_c_k _ _ _ _ _ _ _ (by assumption) (by lia) (by kba_size) (by kba_size)))); walk_at "side 9"); intro _ _ _ _ _; (try dsimp only [Int.reduceToNat, Nat.reduceAdd]))
  trivial

/-! contracts of sums.py -/
noncomputable def foldv (x : Int) : Int := if x = 0 then 0 else (x - 1) % 65535 + 1
theorem foldv_in {x : Int} (h : 0 ≤ x) : 0 ≤ foldv x ∧ foldv x ≤ 65535 := by
  unfold foldv; split
  · exact ⟨Int.le_refl 0, by decide⟩
  · exact ⟨Int.add_nonneg (Int.emod_nonneg _ (by decide)) (by decide), Int.add_one_le_of_lt (Int.emod_lt_of_pos _ (by decide))⟩
theorem foldv_small {x : Int} (h : 0 ≤ x) (h2 : x ≤ 65535) : foldv x = x := by
  unfold foldv; split
  · exact Eq.symm (by assumption)
  · rw [Int.emod_eq_of_lt (by lia) (by lia), Int.sub_add_cancel]
theorem foldv_step {x : Int} (h : 65535 < x) : foldv (x % 65536 + x / 65536) = foldv x := by
  unfold foldv
  rw [if_neg (fold_nz h), if_neg (Int.ne_of_gt (Int.lt_trans (by decide) h)), fold_mod]
theorem fitsL {i : Int} (h0 : -4000000 ≤ i) (h1 : i ≤ 4000000) : Builtin.Range.rangeFitsLong i = true := by
  unfold Builtin.Range.rangeFitsLong
  rw [Bool.and_eq_true, decide_eq_true_eq, decide_eq_true_eq]
  exact ⟨Int.le_trans (by decide) h0, Int.lt_of_le_of_lt h1 (by decide)⟩
theorem small_pos {a b c : Int} (hc : 0 < c) (hc' : c ≤ 64) (ha : 0 ≤ a) (ha' : a ≤ 1000000) (hb : -1000000 ≤ b) (hb' : b ≤ 1000000) : Builtin.Range.small a b c = true := by
  have hn : 0 ≤ Builtin.Range.rangeSize a b c ∧ Builtin.Range.rangeSize a b c ≤ 1000001 := by
    unfold Builtin.Range.rangeSize
    rw [if_pos hc]
    split
    · have q0 : 0 ≤ b - a - 1 := by lia
      have q1 := Int.ediv_nonneg q0 (Int.le_of_lt hc)
      have q2 := Int.ediv_le_self (a := b - a - 1) c q0
      generalize (b - a - 1) / c = q at *
      constructor <;> lia
    · decide
  have r : Builtin.Range.rangeFitsLong (b + (c - 1)) = true := fitsL (by lia) (by lia)
  unfold Builtin.Range.small
  rw [fitsL (by lia) (by lia), fitsL (by lia) (by lia), fitsL (by lia) (by lia), fitsL (by lia) (by lia), if_pos hc, r, Bool.or_true]
  rfl
theorem rangeSize_posN {a b c : Int} (hc : 0 < c) {n : Nat} (h : (a < b ∧ (n : Int) = (b - a - 1) / c + 1) ∨ (b ≤ a ∧ n = 0)) : Builtin.Range.rangeSize a b c = (n : Int) := by
  unfold Builtin.Range.rangeSize
  simp only [gt_iff_lt, if_pos hc]
  split <;> lia
section
variable {prog : Program} {w : World} {A : Around} {E : Value → Shared → Prop} {s : Shared} {env : Env} {h₀ : Heap} {x : Str} {body : List Stmt} {Q : Flow → Shared → Prop}
noncomputable def stepKs (a₀ st : Int) (n : Nat) : List Int := (List.range n).map fun (i : Nat) => a₀ + (i : Int) * st
theorem stepKs_length (a₀ st : Int) (n : Nat) : (stepKs a₀ st n).length = n := by simp [stepKs]
/-- a for over range(a₀, b₀, st), st above 0 -/
theorem kst_rangeP {σ : Type} {r : Addr} {a₀ b₀ st : Int} {t₀ u₀ v₀ : Tok} {n : Nat} {m₀ : Str → Option Value} (Led : σ → Led) (ps : σ → List (Str × Value)) (stored : List Str) (P : Nat → σ → Prop) (c₀ : σ)
    (hh : A.handled = none) (hr : IsRange s.heap r a₀ b₀ st t₀ u₀ v₀) (hsmall : Builtin.Range.small a₀ b₀ st = true) (hn : Builtin.Range.rangeSize a₀ b₀ st = (n : Int)) (F : Fr h₀ env.locals s.heap m₀) (N : News h₀ env.locals s.heap (Led c₀)) (hk : ∀ p ∈ ps c₀, m₀ p.1 = some p.2) (hp : P 0 c₀)
    (turn : ∀ (c : σ) (pre : List Int) (k : Int) t (u : Str → Option Value) h tk own, k = a₀ + (pre.length : Int) * st → pre.length < n → OwnOff own ((Led c₀).map (·.1)) → P pre.length c →
      Fr h₀ env.locals h (fun y => if y = x then some (.int k t) else kstB (fun z => if stored.contains z then u z else m₀ z) (ps c) y) → News h₀ env.locals h (Led c ++ own) →
      wpAny (model prog w) A (execs body env) (InvPostN h₀ env.locals (KstS Led ps (fun _ => True) x stored m₀ (fun (pre : List Int) c => P pre.length c) (pre ++ [k])) own ((Led c₀).map (·.1)) { s with heap := h, toks := tk } Q) E { s with heap := h, toks := tk })
    (done : ∀ (c : σ) (u : Str → Option Value) h tk, P n c → Fr h₀ env.locals h (fun y => if y = x then u y else kstB (fun z => if stored.contains z then u z else m₀ z) (ps c) y) → News h₀ env.locals h (Led c) → Q .next { s with heap := h, toks := tk }) :
    wpAny (model prog w) A (pyIter (.ref r)) (fun it s₂ => LoopAtV prog w A h₀ env x body Q E it s₂) E s := by
  refine wpAny_pyIter_range hr hsmall ?_
  have W : Walks prog w A s.heap.objs.size [s.heap.objs.size] [s.heap.objs.size] n (fun i v => i < n ∧ ∃ t, v = .int (a₀ + i * st) t)
      (fun i h => IsRangeIter h s.heap.objs.size (a₀ + (i : Nat) * st) ((n : Int) - (i : Nat)) st) := (Walks.range hh _ a₀ st n).bound
  refine loop_invN (fun i m nx => KstS Led ps (fun _ => True) x stored m₀ (fun (pre : List Int) c => P pre.length c) ((stepKs a₀ st n).take i) m nx) W ?_ ?_ ?_ ?_ (by show IsRangeIter _ _ _ _ _; rw [hn]; simpa using Heap.get?_push_size _ rfl) (F.push _) (fun p hp => ⟨Heap.get?_push_of_some _ (N p hp).1, (N p hp).2⟩) ⟨c₀, rfl, trivial, hk, fun _ _ _ _ => rfl, by simpa using hp⟩ ?_ ?_
  · intro hm
    exact absurd F.ns.lt ((List.mem_singleton.mp hm) ▸ Nat.lt_irrefl _)
  · intro b hb
    rw [List.mem_singleton.mp hb]
    exact next_is_new F
  · intro p hp hI
    exact absurd (Heap.lt_size (N p hp).1) ((List.mem_singleton.mp hI) ▸ Nat.lt_irrefl _)
  · intro p hp hI
    exact absurd (Heap.lt_size (N p hp).1) ((List.mem_singleton.mp hI) ▸ Nat.lt_irrefl _)
  · rintro i v m₁ nx h tk own hi ⟨_, t, rfl⟩ _ hoff ⟨c, rfl, _, h1, h2, hp'⟩ F₁ N₁
    have hk' : (stepKs a₀ st n)[i]? = some (a₀ + (i : Int) * st) := by simp [stepKs, hi]
    have hs : (stepKs a₀ st n).take (i + 1) = (stepKs a₀ st n).take i ++ [a₀ + (i : Int) * st] := by simp [List.take_add_one, hk']
    have hlen : ((stepKs a₀ st n).take i).length = i := by rw [List.length_take, stepKs_length]; lia
    rw [hs]
    exact turn c _ _ t m₁ h tk own (by rw [hlen]) (by rw [hlen]; exact hi) hoff hp' (kst_fr h1 h2 F₁) N₁
  · rintro m₁ nx h tk ⟨c, rfl, _, h1, h2, hp'⟩ F₁ N₁
    have hl : (stepKs a₀ st n).take n = stepKs a₀ st n := List.take_of_length_le (Nat.le_of_eq (stepKs_length _ _ _))
    rw [hl, stepKs_length] at hp'
    exact done c m₁ h tk hp' (kst_frOut h1 h2 F₁) N₁
end
noncomputable def psum : List Int → Int
  | [] => 0
  | [a] => a * 256
  | a :: b :: r => a * 256 + b + psum r
theorem psum_in : ∀ {ks : List Int}, InB ks → 0 ≤ psum ks ∧ psum ks ≤ 65535 * ks.length
  | [], _ => by simp [psum]
  | [a], h => by
    have := h a (by simp)
    simp only [psum, List.length_cons, List.length_nil]; lia
  | a :: b :: r, h => by
    have h1 := h a (by simp)
    have h2 := h b (by simp)
    have h3 := psum_in (ks := r) fun k hk => h k (by simp [hk])
    simp only [psum, List.length_cons]; lia
theorem psum_take : ∀ (i : Nat) (ks : List Int), 2 * i + 1 < ks.length → psum (ks.take (2 * (i + 1))) = psum (ks.take (2 * i)) + g16 ks (2 * i)
  | 0, a :: b :: r, _ => by simp [psum, g16]
  | i + 1, a :: b :: r, h => by
    have ih := psum_take i r (by simp only [List.length_cons] at h; lia)
    have e1 : 2 * (i + 1 + 1) = 2 * (i + 1) + 2 := by lia
    have e2 : 2 * (i + 1) = 2 * i + 2 := by lia
    have e3 : g16 (a :: b :: r) (2 * (i + 1)) = g16 r (2 * i) := by
      unfold g16
      rw [e2, show 2 * i + 2 + 1 = (2 * i + 1) + 1 + 1 from by lia]; simp
    rw [e3, e1, List.take_succ_cons, List.take_succ_cons, psum, ih, e2, List.take_succ_cons, List.take_succ_cons, psum]; lia
  | _, [], h => by simp at h
  | _, [_], h => by simp at h
theorem psum_odd : ∀ (i : Nat) (ks : List Int), ks.length = 2 * i + 1 → psum (ks.take (2 * i)) + ks.getD (2 * i) 0 * 256 = psum ks
  | 0, [a], _ => by simp [psum]
  | i + 1, a :: b :: r, h => by
    have ih := psum_odd i r (by simp only [List.length_cons] at h; lia)
    have e2 : 2 * (i + 1) = 2 * i + 2 := by lia
    rw [e2, List.take_succ_cons, List.take_succ_cons, psum, psum]
    simp only [List.getD_cons_succ]; lia
  | 0, [], h => by simp at h
  | 0, _ :: _ :: _, h => by simp at h
  | i + 1, [], h => by simp at h
  | i + 1, [_], h => by simp only [List.length_cons, List.length_nil] at h; lia
theorem psum_next {ks pre : List Int} {x c k : Int} (h : c = x + psum (ks.take (2 * pre.length))) (hl : 2 * pre.length + 1 < ks.length) :
    c + (ks.getD (0 + (pre.length : Int) * 2).toNat 0 * 256 + ks.getD (0 + (pre.length : Int) * 2 + 1).toNat 0) = x + psum (ks.take (2 * (pre ++ [k]).length)) := by
  rw [List.length_append, List.length_singleton, psum_take _ _ hl, h]
  unfold g16
  rw [tn_m2, tn_m2s]
  exact Int.add_assoc ..
theorem fold_c (w : World) (x : Int) (tx : TC) (news : Led) (h0 : 0 ≤ x) :
   Con w (.ref 107) [.int x tx] 1 news (fun r N => N = news ∧ ∃ t, r = .int (foldv x) t) := by
  unfold Con
  k_fill
  intro dp un gd cn cs a ccd cl outer A₀ base h₀ L m s Q E p loose mean mg mb B F X N T hk hd hu hret
  refine wpAny_call ?_
  k_dflt (refine' code_def ?k1 ?k2 ?k3 ?k4 ?k5 ?kA ?kF ?kK ?k6 ?k7 ?k8 ?k9 ?kB ?_ ?c2 ?c3 ?c4 ?c5; (case kA => exact rfl); (case kF => exact rfl); (case kK => assumption); (case k1 => k_asm); (case k2 => k_asm); (case k3 => k_asm); (case k4 => k_asm); (case k5 => k_asm); (case k6 => k_is); (case k7 => k_is); (case k8 => ktr_room); (case k9 => first | exact BindsTo.of_eq rfl | exact binds_K (by k_in) rfl (by k_is) rfl rfl rfl); (case c5 => decide); (case kB => exact locs rfl); (case c2 => exact rfl); (case c3 => exact rfl); (case c4 => exact rfl); k_whole; intro g' L' h' FG' F' N' B' X' T'; (try dsimp only); (try k_fold))
  k_with "measure" => exact fold_less (by assumption)
  k_with "state" => exact ⟨by lia, (foldv_step (by lia)).trans (by assumption)⟩
  k_with "exec While Compare cons nil" => k_while_given ["total!"] (fun t₀ (_ : List Int) x => 0 ≤ x ∧ foldv x = foldv t₀) (fun _ (_ : List Int) x => x.toNat) "total"
  k_steps
  exact hret _ _ _ _ ⟨rfl, _, congrArg (Value.int · _) ((foldv_small (by assumption) (by lia)).symm.trans (by assumption))⟩ (by k_asm) (by first | k_asm | exact news_subL (by assumption) (by k_extra "sub") | exact news_sub (by assumption) (by intro p hp; (try simp only [List.mem_cons, List.mem_append] at hp ⊢); grind))
theorem fold_c_k (w : World) (x : Int) (tx : TC) (news : Led) (h0 : 0 ≤ x)  :
   Kon w (.ref 107) [.int x tx] 1 news (fun K9 => ∀ t, K9 (.int (foldv x) t) (news))  :=
  Con.kon (fold_c w x tx news h0) (by
    rintro K9 g9 r9 N9 ⟨rfl, v0, rfl⟩
    exact g9 v0)
theorem reg_p04_0 : True := by
  k_with "call ref" => (k_here; (with_reducible show wpAny _ _ (call (Value.ref 107) _) _ _ _); k_dflt (refine' Kon.go ?_ ?_ ?_ ?_ ?_ ?_ ?_ ?_ ?_ ?_; walk_at "side 0"; (any_goals ((with_reducible show Kon _ _ _ _ _ _); exact (fold_c_k _ _ _ _ (by lia)))); walk_at "side 9"); intro _ _ _ _ _)
  trivial
noncomputable def ones_sum_c_S (z : Fra × World × TC × Int × TC × Led) : Prop :=
  (fun (F9 : Fra) (w : World) (tb : TC) (x : Int) (tx : TC) (news : Led) => ∀ (b : Array UInt8), ∀ (ks : List Int), ∀ (hb : BI b = ks), ∀ (h0 : 0 ≤ x), ∀ (hl : ks.length ≤ 100000), BodK w 115 [.bytes b tb, .int x tx] 2 news (fun r N => N = news ∧ ∃ t, r = .int (foldv (x + psum ks)) t) F9) (z.1) (z.2.1) (z.2.2.1) (z.2.2.2.1) (z.2.2.2.2.1) (z.2.2.2.2.2)
@[irreducible] noncomputable def ones_sum_c_z : Fra × World × TC × Int × TC × Led := wit (fra0, wrl0, 0, 0, 0, []) ones_sum_c_S
namespace ones_sum_c_
@[irreducible] noncomputable def F9 : Fra := ones_sum_c_z.1
@[irreducible] noncomputable def w : World := ones_sum_c_z.2.1
@[irreducible] noncomputable def tb : TC := ones_sum_c_z.2.2.1
@[irreducible] noncomputable def x : Int := ones_sum_c_z.2.2.2.1
@[irreducible] noncomputable def tx : TC := ones_sum_c_z.2.2.2.2.1
@[irreducible] noncomputable def news : Led := ones_sum_c_z.2.2.2.2.2
theorem run : ∀ (b : Array UInt8), ∀ (ks : List Int), ∀ (hb : BI b = ks), ∀ (h0 : 0 ≤ x), ∀ (hl : ks.length ≤ 100000), BodK w 115 [.bytes b tb, .int x tx] 2 news (fun r N => N = news ∧ ∃ t, r = .int (foldv (x + psum ks)) t) F9 := by
  intro b ks hb h0 hl
  have hB := inB_of hb
  refine' BodK.enter ?ho ?hb ?_; (case ho => k_is); (case hb => first | (dsimp only [List.map, List.zip, List.zipWith]; done) | (dsimp only [List.map, List.zip, List.zipWith]; exact rfl))
  intro B' F' X' N' T' hd hu hPE hnx hret
  k_steps
  rename IsRange _ _ _ _ _ _ _ _ => rg
  rename Fr _ _ _ _ => lF
  rename News _ _ _ _ => lN
  have hl2 : (ks.length : Int) % 2 = 0 ∨ (ks.length : Int) % 2 = 1 := by lia
  k_with "state" => exact psum_next (by assumption) (by lia)
  with_unfolding_all refine' kst_rangeP (σ := Int × Tok) (n := ks.length / 2) (fun _ => news) (fun c => [(Str.ofString "total", Value.int c.1 c.2)]) [] (fun i c => c.1 = x + psum (ks.take (2 * i))) (x, tx) (by rfl) rg (small_pos (by lia) (by lia) (by lia) (by lia) (by lia) (by lia)) ((congrArg (Builtin.Range.rangeSize 0 · 2) (ev2 ks.length)).trans (rs2 _)) lF lN ?hk ?hp ?turn ?done
  case hk => intro p hp; rw [List.mem_singleton.mp hp]; rfl
  case hp => simp [psum]
  case turn =>
    rintro ⟨c, tc⟩ pre k t u h tk own rfl hlt hoff hP F₁ N₁
    dsimp only [kstB] at F₁
    have i1 := getD_inB hB ((0 : Int) + (pre.length : Int) * 2).toNat
    have i2 := getD_inB hB ((0 : Int) + (pre.length : Int) * 2 + 1).toNat
    k_steps
  case done =>
    rintro ⟨c, tc⟩ u h tk hP F₁ N₁
    dsimp only [kstB] at F₁
    have i1 := getD_inB hB ((ks.length : Int) - (ks.length : Int) % 2).toNat
    have p1 := psum_in (ks := ks.take (2 * (ks.length / 2))) fun k hk => hB k (List.mem_of_mem_take hk)
    have hP' : c = x + psum (ks.take (2 * (ks.length / 2))) := hP
    k_steps
    · refine hret _ _ _ _ ⟨rfl, _, congrArg (fun z => Value.int (foldv z) _) ?_⟩ (by k_asm) (by first | k_asm | exact news_subL (by assumption) (by k_extra "sub") | exact news_sub (by assumption) (by intro p hp; (try simp only [List.mem_cons, List.mem_append] at hp ⊢); grind))
      have e := psum_odd (ks.length / 2) ks (by lia)
      rw [show ((ks.length : Int) - (ks.length : Int) % 2).toNat = 2 * (ks.length / 2) from congrArg Int.toNat (ev2 _)]
      lia
    · refine hret _ _ _ _ ⟨rfl, _, congrArg (fun z => Value.int (foldv z) _) ?_⟩ (by k_asm) (by first | k_asm | exact news_subL (by assumption) (by k_extra "sub") | exact news_sub (by assumption) (by intro p hp; (try simp only [List.mem_cons, List.mem_append] at hp ⊢); grind))
      rw [hP', List.take_of_length_le (by lia)]
end ones_sum_c_
theorem ones_sum_c (w : World) (b : Array UInt8) (tb : TC) (ks : List Int) (x : Int) (tx : TC) (news : Led) (hb : BI b = ks) (h0 : 0 ≤ x) (hl : ks.length ≤ 100000)  : Con w (.ref 115) [.bytes b tb, .int x tx] 2 news (fun r N => N = news ∧ ∃ t, r = .int (foldv (x + psum ks)) t) := by
  refine' BodK.con ?ho ?hcd ?hb ?hq ?hloc ?hco ?hgen ?hk ?hcell ?hD (fun F9 => @wit_all _ (fra0, wrl0, 0, 0, 0, []) ones_sum_c_S (by with_unfolding_all exact ones_sum_c_.run) (F9, w, tb, x, tx, news) b ks hb h0 hl); (case ho => k_is); (case hcd => k_is); (case hb => first | (dsimp only [List.map, List.zip, List.zipWith]; done) | (dsimp only [List.map, List.zip, List.zipWith]; exact rfl)); (case hq => first | exact fun _ _ => BindsTo.of_eq rfl | (intro s7 X7; exact binds_K X7 rfl (by k_is) rfl rfl rfl)); (case hloc => exact locs rfl); (case hco => exact rfl); (case hgen => exact rfl); (case hk => exact rfl); (case hcell => decide); (case hD => decide)

theorem ones_sum_c_k (w : World) (b : Array UInt8) (tb : TC) (ks : List Int) (x : Int) (tx : TC) (news : Led) (hb : BI b = ks) (h0 : 0 ≤ x) (hl : ks.length ≤ 100000)  :
   Kon w (.ref 115) [.bytes b tb, .int x tx] 2 news (fun K9 => ∀ t, K9 (.int (foldv (x + psum ks)) t) (news))  :=
  Con.kon (ones_sum_c w b tb ks x tx news hb h0 hl) (by
    rintro K9 g9 r9 N9 ⟨rfl, v0, rfl⟩
    exact g9 v0)
theorem reg_p04_1 : True := by
  k_with "call ref" => (k_here; (with_reducible show wpAny _ _ (call (Value.ref 115) _) _ _ _); k_dflt (refine' Kon.go ?_ ?_ ?_ ?_ ?_ ?_ ?_ ?_ ?_ ?_; walk_at "side 0"; (any_goals ((with_reducible show Kon _ _ _ _ _ _); exact (ones_sum_c_k _ _ _ _ _ _ _ (by assumption) (by lia) (by kba_size)))); walk_at "side 9"); intro _ _ _ _ _)
  trivial
noncomputable def ck (ks : List Int) : Int := 65535 - foldv (psum ks)
theorem checksum_c (w : World) (b : Array UInt8) (tb : TC) (ks : List Int) (news : Led) (hb : BI b = ks) (hl : ks.length ≤ 100000) :
   Con w (.ref 123) [.bytes b tb] 3 news (fun r N => N = news ∧ ∃ t, r = .int (ck ks) t) := by
  unfold Con
  k_fill
  intro dp un gd cn cs a ccd cl outer A₀ base h₀ L m s Q E p loose mean mg mb B F X N T hk hd hu hret
  refine wpAny_call ?_
  k_dflt (refine' code_def ?k1 ?k2 ?k3 ?k4 ?k5 ?kA ?kF ?kK ?k6 ?k7 ?k8 ?k9 ?kB ?_ ?c2 ?c3 ?c4 ?c5; (case kA => exact rfl); (case kF => exact rfl); (case kK => assumption); (case k1 => k_asm); (case k2 => k_asm); (case k3 => k_asm); (case k4 => k_asm); (case k5 => k_asm); (case k6 => k_is); (case k7 => k_is); (case k8 => ktr_room); (case k9 => first | exact BindsTo.of_eq rfl | exact binds_K (by k_in) rfl (by k_is) rfl rfl rfl); (case c5 => decide); (case kB => exact locs rfl); (case c2 => exact rfl); (case c3 => exact rfl); (case c4 => exact rfl); k_whole; intro g' L' h' FG' F' N' B' X' T'; (try dsimp only); (try k_fold))
  k_steps
  exact hret _ _ _ _ ⟨rfl, _, by unfold ck; rw [Int.zero_add]⟩ (by k_asm) (by first | k_asm | exact news_subL (by assumption) (by k_extra "sub") | exact news_sub (by assumption) (by intro p hp; (try simp only [List.mem_cons, List.mem_append] at hp ⊢); grind))
theorem checksum_c_k (w : World) (b : Array UInt8) (tb : TC) (ks : List Int) (news : Led) (hb : BI b = ks) (hl : ks.length ≤ 100000)  :
   Kon w (.ref 123) [.bytes b tb] 3 news (fun K9 => ∀ t, K9 (.int (ck ks) t) (news))  :=
  Con.kon (checksum_c w b tb ks news hb hl) (by
    rintro K9 g9 r9 N9 ⟨rfl, v0, rfl⟩
    exact g9 v0)
theorem reg_p04_2 : True := by
  k_with "call ref" => (k_here; (with_reducible show wpAny _ _ (call (Value.ref 123) _) _ _ _); k_dflt (refine' Kon.go ?_ ?_ ?_ ?_ ?_ ?_ ?_ ?_ ?_ ?_; walk_at "side 0"; (any_goals ((with_reducible show Kon _ _ _ _ _ _); exact (checksum_c_k _ _ _ _ _ (by assumption) (by kba_size)))); walk_at "side 9"); intro _ _ _ _ _)
  trivial
noncomputable def adjusted_c_S (z : Fra × World × Int × Int × Int × TC × TC × TC × Led) : Prop :=
  (fun (F9 : Fra) (w : World) (c : Int) (o : Int) (n : Int) (t1 : TC) (t2 : TC) (t3 : TC) (news : Led) => ∀ (h0 : 0 ≤ c), ∀ (h1 : c ≤ 65535), ∀ (h2 : o ≤ 65535), ∀ (h3 : 0 ≤ n), BodK w 130 [.int c t1, .int o t2, .int n t3] 3 news (fun r N => N = news ∧ ∃ t, r = .int (65535 - foldv (65535 - c + (65535 - o) + n)) t) F9) (z.1) (z.2.1) (z.2.2.1) (z.2.2.2.1) (z.2.2.2.2.1) (z.2.2.2.2.2.1) (z.2.2.2.2.2.2.1) (z.2.2.2.2.2.2.2.1) (z.2.2.2.2.2.2.2.2)
@[irreducible] noncomputable def adjusted_c_z : Fra × World × Int × Int × Int × TC × TC × TC × Led := wit (fra0, wrl0, 0, 0, 0, 0, 0, 0, []) adjusted_c_S
namespace adjusted_c_
@[irreducible] noncomputable def F9 : Fra := adjusted_c_z.1
@[irreducible] noncomputable def w : World := adjusted_c_z.2.1
@[irreducible] noncomputable def c : Int := adjusted_c_z.2.2.1
@[irreducible] noncomputable def o : Int := adjusted_c_z.2.2.2.1
@[irreducible] noncomputable def n : Int := adjusted_c_z.2.2.2.2.1
@[irreducible] noncomputable def t1 : TC := adjusted_c_z.2.2.2.2.2.1
@[irreducible] noncomputable def t2 : TC := adjusted_c_z.2.2.2.2.2.2.1
@[irreducible] noncomputable def t3 : TC := adjusted_c_z.2.2.2.2.2.2.2.1
@[irreducible] noncomputable def news : Led := adjusted_c_z.2.2.2.2.2.2.2.2
theorem run : ∀ (h0 : 0 ≤ c), ∀ (h1 : c ≤ 65535), ∀ (h2 : o ≤ 65535), ∀ (h3 : 0 ≤ n), BodK w 130 [.int c t1, .int o t2, .int n t3] 3 news (fun r N => N = news ∧ ∃ t, r = .int (65535 - foldv (65535 - c + (65535 - o) + n)) t) F9 := by
  intro h0 h1 h2 h3
  refine' BodK.enter ?ho ?hb ?_; (case ho => k_is); (case hb => first | (dsimp only [List.map, List.zip, List.zipWith]; done) | (dsimp only [List.map, List.zip, List.zipWith]; exact rfl))
  intro B' F' X' N' T' hd hu hPE hnx hret
  k_steps
  ((try with_reducible refine hnx _ ?_); exact hret _ _ _ _ ⟨rfl, _, rfl⟩ (by k_asm) (by first | k_asm | exact news_subL (by assumption) (by k_extra "sub") | exact news_sub (by assumption) (by intro p hp; (try simp only [List.mem_cons, List.mem_append] at hp ⊢); grind)))
end adjusted_c_
theorem adjusted_c (w : World) (c o n : Int) (t1 t2 t3 : TC) (news : Led) (h0 : 0 ≤ c) (h1 : c ≤ 65535) (h2 : o ≤ 65535) (h3 : 0 ≤ n)   : Con w (.ref 130) [.int c t1, .int o t2, .int n t3] 3 news (fun r N => N = news ∧ ∃ t, r = .int (65535 - foldv (65535 - c + (65535 - o) + n)) t) := by
  refine' BodK.con ?ho ?hcd ?hb ?hq ?hloc ?hco ?hgen ?hk ?hcell ?hD (fun F9 => @wit_all _ (fra0, wrl0, 0, 0, 0, 0, 0, 0, []) adjusted_c_S (by with_unfolding_all exact adjusted_c_.run) (F9, w, c, o, n, t1, t2, t3, news) h0 h1 h2 h3); (case ho => k_is); (case hcd => k_is); (case hb => first | (dsimp only [List.map, List.zip, List.zipWith]; done) | (dsimp only [List.map, List.zip, List.zipWith]; exact rfl)); (case hq => first | exact fun _ _ => BindsTo.of_eq rfl | (intro s7 X7; exact binds_K X7 rfl (by k_is) rfl rfl rfl)); (case hloc => exact locs rfl); (case hco => exact rfl); (case hgen => exact rfl); (case hk => exact rfl); (case hcell => decide); (case hD => decide)

theorem adjusted_c_k (w : World) (c o n : Int) (t1 t2 t3 : TC) (news : Led) (h0 : 0 ≤ c) (h1 : c ≤ 65535) (h2 : o ≤ 65535) (h3 : 0 ≤ n)   :
   Kon w (.ref 130) [.int c t1, .int o t2, .int n t3] 3 news (fun K9 => ∀ t, K9 (.int (65535 - foldv (65535 - c + (65535 - o) + n)) t) (news))  :=
  Con.kon (adjusted_c w c o n t1 t2 t3 news h0 h1 h2 h3) (by
    rintro K9 g9 r9 N9 ⟨rfl, v0, rfl⟩
    exact g9 v0)
theorem reg_p04_3 : True := by
  k_with "call ref" => (k_here; (with_reducible show wpAny _ _ (call (Value.ref 130) _) _ _ _); k_dflt (refine' Kon.go ?_ ?_ ?_ ?_ ?_ ?_ ?_ ?_ ?_ ?_; walk_at "side 0"; (any_goals ((with_reducible show Kon _ _ _ _ _ _); exact (adjusted_c_k _ _ _ _ _ _ _ _ (by lia) (by lia) (by lia) (by lia)))); walk_at "side 9"); intro _ _ _ _ _)
  trivial

/-! exceptions of the text: StackError and its heirs, made with a message -/
abbrev xbm : List Value := [.ref 38, .type "Exception", .type "BaseException", .type "object"]
section
variable {prog : Program} {w : World} {A : Around} {h : Heap} {g : Array GenState} {d : Drawn} {t : Nat} {os : OsState}
variable {nm q : Str} {C N : Addr} {bs : List Value} {hdct : Bool} {sn : List Str} {sub : List Value} {ab : Bool} {col : Option Bool} {dd : Option Addr} {k0 k1 k2 k3 k5 : Option Value}
abbrev xcls (nm q : Str) (C N : Addr) (bs : List Value) (hdct : Bool) (sn : List Str) (sub : List Value) (ab : Bool) (col : Option Bool) (dd : Option Addr) (k0 k1 k2 k3 k5 : Option Value) : Obj :=
  excClassObj nm q C N bs xbm hdct sn sub ab col dd k0 k1 k2 k3 k5 "Exception.__new__"
theorem x_check_new {M : Model} {E : Value → Shared → Prop} {rest : List Value} {Q : Unit → Shared → Prop} (hC : h.get? C = some (xcls nm q C N bs hdct sn sub ab col dd k0 k1 k2 k3 k5))
    (hq : Q () ⟨h, g, d, t, os⟩) : wpAny M A (checkBuiltinCall "Exception.__new__" ⟨.ref C :: rest, []⟩) Q E ⟨h, g, d, t, os⟩ := by
  have hcont : (Value.ref C :: xbm).contains (.type "Exception") = true := by rw [List.contains_cons]; simp
  have hstar := F.excBase_Exception.noStar
  simp only [checkBuiltinCall, F.excBase_Exception.newKind, F.excBase_Exception.newSplit, F.excBase_Exception.newRow]
  repeat (first | refine wpAny_loadPart_at hC ?_ | (refine wpAny_isSubtype_exc hC ?_; rw [hcont]) | refine wpAny_staticBase_exc hC ?_ | refine wpAny_madeBy_exc hC ?_ | simp only [bne_self_eq_false, Bool.false_eq_true, if_false] | wp_step)
  exact hq
theorem x_new {R : Result → Shared → Prop} {rest : List Value} (hC : h.get? C = some (xcls nm q C N bs hdct sn sub ab col dd k0 k1 k2 k3 k5))
    (hq : R (.ok (.ret (.ref (h.objs.size + 1)))) ⟨(h.push { cls := .type "tuple", data := .seq rest.toArray }).push
      { cls := .ref C, data := .fields #[.ref h.objs.size, .none, .none, .none, .bool false, .none] }, g, d, t, os⟩) (hrest : rest.length ≤ sizeLine) :
    codeAny (model prog w) A (.builtin "Exception.__new__" ⟨.ref C :: rest, []⟩) R ⟨h, g, d, t, os⟩ := by
  have hends := F.excBase_Exception.ends
  have hcB : (Value.ref C :: xbm).contains (.type "Exception") = true := by rw [List.contains_cons]; simp
  have hcA : (Value.ref C :: xbm).contains (.type "AttributeError") = false := by rw [List.contains_cons]; rfl
  have hcN : (Value.ref C :: xbm).contains (.type "NameError") = false := by rw [List.contains_cons]; rfl
  have FE := PySem.F.excBase_Exception
  refine codeAny_builtinAt FE.entry ?_
  unfold Builtin.«BaseException.__new__»
  refine PySem.wpAt_bind ?_
  show PySem.wpAt _ _ _ (stack >>= _) _ _ _
  refine PySem.wpAt_bind (PySem.wpAt_stack fun p below => PySem.wpAt_of_wpAny ?_)
  wp_walk
  refine PySem.wpAt_of_wpAny ?_
  rw [F.excBase_Exception.owner]
  repeat (first | with_reducible refine wpAny_madeHere_exc F.excBase_Exception.canon hC ?_ | with_reducible refine wpAny_loadPart_at hC ?_ | (with_reducible refine wpAny_isSubtype_exc hC ?_; first | rw [hcB] | rw [hcA] | rw [hcN]) | wp_step)
  show R _ _
  rw [Heap.size_push]
  exact hq
/-- the call of the class, up to the call of its __init__ upon the new object -/
theorem x_type_call {E : Value → Shared → Prop} {rest : List Value} {Q : Fin → Shared → Prop} {f : Addr}
    (hC : h.get? C = some (xcls nm q C N bs hdct sn sub ab col dd k0 k1 k2 k3 k5)) (hrest : rest.length ≤ sizeLine)
    (hi : ∀ (h' : Heap) (A' : Around) (Q' : Option Value → Shared → Prop) (E' : Value → Shared → Prop), (∀ b o, h.get? b = some o → h'.get? b = some o) → Q' (some (.ref f)) ⟨h', g, d, t, os⟩ → wpAny (model prog w) A' (typeLookup (.ref C) "__init__") Q' E' ⟨h', g, d, t, os⟩)
    (hb : ∀ (h' : Heap) (A' : Around) (self : Value) (Q' : Value × List Value → Shared → Prop) (E' : Value → Shared → Prop), (∀ b o, h.get? b = some o → h'.get? b = some o) → Q' (.ref f, [self]) ⟨h', g, d, t, os⟩ → wpAny (model prog w) A' (bindSpecial (.ref f) self) Q' E' ⟨h', g, d, t, os⟩)
    (hq : wpAny (model prog w) A (call (.ref f) (.ref (h.objs.size + 1) :: rest)) (fun r s' => r = .none ∧ Q (.done (.ret (.ref (h.objs.size + 1)))) s') E
      ⟨(h.push { cls := .type "tuple", data := .seq rest.toArray }).push { cls := .ref C, data := .fields #[.ref h.objs.size, .none, .none, .none, .bool false, .none] }, g, d, t, os⟩) :
    wpAny (model prog w) A (Builtin.«type.__call__» ⟨.ref C :: rest, []⟩) Q E ⟨h, g, d, t, os⟩ := by
  repeat (first | with_reducible refine wpAny_loadPart_at hC ?_ | with_reducible refine wpAny_madeBy_exc hC ?_ | wp_step)
  refine codeAny_call_builtin_code (Code.quiet_builtin _ F.excBase_Exception.quiet) (x_check_new hC ?_)
  refine x_new hC ?_ hrest
  show wpAny _ _ _ _ _ _
  have hk : ∀ b o, h.get? b = some o → ((h.push { cls := .type "tuple", data := .seq rest.toArray }).push { cls := .ref C, data := .fields #[.ref h.objs.size, .none, .none, .none, .bool false, .none] }).get? b = some o :=
    fun b o e => Heap.get?_push_of_some _ (Heap.get?_push_of_some _ e)
  have hC₁ := hk _ _ hC
  have hget : ((h.push { cls := .type "tuple", data := .seq rest.toArray }).push
      { cls := .ref C, data := .fields #[.ref h.objs.size, .none, .none, .none, .bool false, .none] }).get? (h.objs.size + 1) = some
      { cls := .ref C, data := .fields #[.ref h.objs.size, .none, .none, .none, .bool false, .none] } := by heap_get
  have hcC : (Value.ref C :: xbm).contains (.ref C) = true := by simp
  unfold isInstance
  repeat (first | with_reducible refine wpAny_loadPart_at hget ?_ | (with_reducible refine wpAny_isSubtype_exc hC₁ ?_; rw [hcC]) | wp_step)
  show wpAny _ _ (typeLookup (.ref C) _) _ _ _
  refine hi _ _ _ _ hk ?_
  dsimp only
  refine wpAny_holding (wpAny_bind (hb _ _ _ _ _ hk ?_))
  refine wpAny_bind (wpAny_mono hq (fun r s' hr => wpAny_pure ?_) fun _ _ e => e)
  obtain ⟨rfl, hr⟩ := hr
  refine bm_if_false rfl ?_
  exact wpAny_of_eq (a := Fin.done (.ret (.ref (h.objs.size + 1)))) rfl hr
theorem x_call {E : Value → Shared → Prop} {rest : List Value} {Q : Value → Shared → Prop} {f : Addr}
    (hC : h.get? C = some (xcls nm q C N bs hdct sn sub ab col dd k0 k1 k2 k3 k5)) (hrest : rest.length ≤ sizeLine)
    (hi : ∀ (h' : Heap) (A' : Around) (Q' : Option Value → Shared → Prop) (E' : Value → Shared → Prop), (∀ b o, h.get? b = some o → h'.get? b = some o) → Q' (some (.ref f)) ⟨h', g, d, t, os⟩ → wpAny (model prog w) A' (typeLookup (.ref C) "__init__") Q' E' ⟨h', g, d, t, os⟩)
    (hb : ∀ (h' : Heap) (A' : Around) (self : Value) (Q' : Value × List Value → Shared → Prop) (E' : Value → Shared → Prop), (∀ b o, h.get? b = some o → h'.get? b = some o) → Q' (.ref f, [self]) ⟨h', g, d, t, os⟩ → wpAny (model prog w) A' (bindSpecial (.ref f) self) Q' E' ⟨h', g, d, t, os⟩)
    (hq : wpAny (model prog w) (A.under (.builtin "type.__call__" ⟨.ref C :: rest, []⟩)) (call (.ref f) (.ref (h.objs.size + 1) :: rest)) (fun r s' => r = .none ∧ Q (.ref (h.objs.size + 1)) s') E
      ⟨(h.push { cls := .type "tuple", data := .seq rest.toArray }).push { cls := .ref C, data := .fields #[.ref h.objs.size, .none, .none, .none, .bool false, .none] }, g, d, t, os⟩) :
    wpAny (model prog w) A (call (.ref C) rest) Q E ⟨h, g, d, t, os⟩ := by
  have f1 := tc_lookup
  have f2 := tc_bind (.ref C)
  have hT : (⟨h, g, d, t, os⟩ : Shared).TypeIs (.ref C) "type" := ⟨_, hC, rfl⟩
  refine wpAny_call (codeAny_of_tree ?_)
  show wpAny _ _ (callAny (.ref C) _) _ _ _
  repeat (any_goals (first | assumption | with_reducible refine wpAny_loadPart_at hC ?_ | wp_step))
  refine ⟨rfl, ?_⟩
  refine codeAny_call_builtin_at (Code.quiet_builtin _ (by decide +kernel)) entry_typeCall (wpAny_check_type_call_sub hC (x_type_call hC hrest hi hb ?_))
  exact hq
end
section
variable {w : World} {A : Around} {E : Value → Shared → Prop} {s : Shared} {K : Frag} {x C : Addr} {ox : Obj} {cd : ClassData} {name : Str} {v : Value} {R : Result → Shared → Prop} {Q : Unit → Shared → Prop} {prog : Program}
/-- a first attribute, stored upon a new exception object that has no dict yet -/
theorem x_store {tk : Tok} {fs : Array Value} {sl : Array (Option Value)} (X : K.In s.heap) (hx : s.heap.get? x = some ⟨.ref C, none, .fields fs, sl⟩)
    (hc : clsIn K C = some cd) (hm : cd.mro = .ref C :: xbm) (hdd : cd.hasDict = true) (ho : mroIn K C (.type "object") = some true) (ha : findIn K (.ref C) name = some none)
    (h : ∀ h' tk', h'.get? x = some ⟨.ref C, some s.heap.objs.size, .fields fs, sl⟩ → (∀ b o, b ≠ x → s.heap.get? b = some o → h'.get? b = some o) → R (.ok (.ret .none)) { s with heap := h', toks := tk' }) :
    codeAny (model prog w) A (.call (.builtin "object.__setattr__") ⟨[.ref x, .str name tk, v], []⟩) R s := by
  have SF := PySem.F.store_object
  have I : InstAt s.heap x ⟨.ref C, none, .fields fs, sl⟩ C none := ⟨hx, rfl, rfl, trivial⟩
  have sub : Looks (model prog w) s.heap (isInstance (.ref x) (.type "object")) true := I.type.andThen (looks_mroIn X ho)
  refine codeAny_call_builtin SF.slot.plain SF.entry (@check_slot (model prog w) _ _ s "object.__setattr__" "object" "__setattr__" (.ref x) [.str name tk, v] [] _ SF.kind SF.split sub (SF.args (.ref x) (.str name tk) v) ?_)
  have hmro : Looks (model prog w) s.heap (mroOf (.ref C)) cd.mro := (looks_clsIn X hc).andThen .now
  rw [osa_eq, refuse_eq]
  refine wpAny_bind (wpAny_bind (I.type.here (wpAny_bind (hmro.here ?_))))
  rw [hm, refuseLoop_ref, refuseLoop_ref, PySem.F.store_Exception.passes]
  refine wpAny_pure (wpAny_bind (I.type.here (wpAny_bind ((looks_findIn X ha).here (wpAny_bind ?_)))))
  refine wpAny_of_eq (a := none) rfl ?_
  dsimp only
  refine wpAny_bind (wpAny_pure (wpAny_bind (wpAny_bind (wpAny_loadPart hx (wpAny_bind ((looks_clsIn X hc).here ?_))))))
  rw [hdd]
  refine bm_if_false rfl ?_
  show wpAny _ _ (alloc { cls := .type "dict", data := .dict #[] } >>= _) _ _ _
  refine wpAny_bind (wpAny_alloc ?_)
  have hx₁ : (s.heap.push { cls := .type "dict", data := .dict #[] }).get? x = some ⟨.ref C, none, .fields fs, sl⟩ := Heap.get?_push_of_some _ hx
  have hxs : x ≠ s.heap.objs.size := Nat.ne_of_lt (Heap.lt_size hx)
  refine wpAny_bind (wpAny_update hx₁ ?_)
  refine wpAny_pure ?_
  have hgd : ((s.heap.push { cls := .type "dict", data := .dict #[] }).update x fun o => { cls := o.cls, dict := some s.heap.objs.size, data := o.data, slots := o.slots }).get? s.heap.objs.size
      = some { cls := .type "dict", data := .dict #[] } := (Heap.get?_update_ne _ _ _ _ hxs.symm).trans (Heap.get?_push_at rfl rfl)
  have hnd : ((s.heap.push { cls := .type "dict", data := .dict #[] }).update x fun o => { cls := o.cls, dict := some s.heap.objs.size, data := o.data, slots := o.slots }).Ns s.heap.objs.size (fun _ => none) :=
    ⟨_, #[], _, hgd, rfl, fun e he => absurd he (by simp), fun _ => rfl⟩
  show wpAny _ _ (Builtin.ObjectAttr.storeInDict s.heap.objs.size (.str name tk) name v) _ _ _
  unfold Builtin.ObjectAttr.storeInDict Builtin.ObjectAttr.newKeyGuard
  refine wpAny_bind (wpAny_pure (wpAny_bind (wpAny_nsSet1 (Heap.Ns1.of_empty hnd) fun h' hn' hs => ?_)))
  obtain ⟨oD, esD, epD, hoD, hdD, hcD⟩ := hn'.count (Within.cons name v Within.nil)
  refine wpAny_bind (wpAny_lookBehind hoD (by rw [hdD]; exact pastItsLine_dict (Nat.le_trans hcD (by rw [List.length_cons, List.length_nil, sizeLine_eq]; lia))) ?_)
  refine wpAny_pure (h h' _ ?_ fun b o hb e => ?_)
  · exact (hs.2 x hxs).trans (Heap.get?_update_self _ hx₁ rfl)
  · exact (hs.2 b (Nat.ne_of_lt (Heap.lt_size e))).trans ((Heap.get?_update_ne _ _ _ _ hb).trans (Heap.get?_push_of_some _ e))
theorem x_setattr {fs : Array Value} {sl : Array (Option Value)} (X : K.In s.heap) (hx : s.heap.get? x = some ⟨.ref C, none, .fields fs, sl⟩)
    (hs : findIn K (.ref C) "__setattr__" = some (some (.builtin "object.__setattr__")))
    (hc : clsIn K C = some cd) (hm : cd.mro = .ref C :: xbm) (hdd : cd.hasDict = true) (ho : mroIn K C (.type "object") = some true) (ha : findIn K (.ref C) name = some none)
    (h : ∀ h' tk', h'.get? x = some ⟨.ref C, some s.heap.objs.size, .fields fs, sl⟩ → (∀ b o, b ≠ x → s.heap.get? b = some o → h'.get? b = some o) → Q () { s with heap := h', toks := tk' }) :
    wpAny (model prog w) A (setAttr (.ref x) name v) Q E s :=
  set_plain (od := none) X ⟨hx, rfl, rfl, trivial⟩ hs (x_store (s := { s with toks := s.toks + 1 }) X hx hc hm hdd ho ha h)
end

/-! the making of an exception of the text, as a contract -/
/-- an exception object of class C that is new -/
noncomputable def ExcIs (o : Obj) (C : Addr) : Prop := ∃ d sl a0, o = ⟨.ref C, d, .fields #[a0, .none, .none, .none, .bool false, .none], sl⟩
theorem fr_but {g h h' : Heap} {L x : Addr} {m : Str → Option Value} (F : Fr g L h m) (hg : g.get? x = none) (hL : L ≠ x) (hk : ∀ b o, b ≠ x → h.get? b = some o → h'.get? b = some o) : Fr g L h' m := by
  obtain ⟨oL, es, ep, hL', r⟩ := F.ns
  exact ⟨⟨oL, es, ep, hk _ _ hL hL', r⟩, fun b o e => hk b o (fun z => by rw [z, hg] at e; cases e) (F.keep b o e), F.above⟩
theorem news_but {g h h' : Heap} {L x : Addr} {l : Led} (N : News g L h l) (hx : ∀ p ∈ l, p.1 ≠ x) (hk : ∀ b o, b ≠ x → h.get? b = some o → h'.get? b = some o) : News g L h' l :=
  fun p hp => ⟨hk _ _ (hx p hp) (N p hp).1, (N p hp).2⟩
noncomputable def IsExcCls (K : Frag) (C : Addr) : Prop := ∃ nm q N bs sn sub ab col dd k0 k1 k2 k3 k5, K.lookup C = some (xcls nm q C N bs true sn sub ab col dd k0 k1 k2 k3 k5)
theorem exc_c (w : World) (C : Addr) (hC : IsExcCls (Mine.hk.heap_1 w.params) C) (hi : findIn (Mine.hk.heap_1 w.params) (.ref C) "__init__" = some (some (.ref 35))) (hf : typeIn (Mine.hk.heap_1 w.params) (.ref 35) = some (.type "function"))
    (hs : findIn (Mine.hk.heap_1 w.params) (.ref C) "__setattr__" = some (some (.builtin "object.__setattr__"))) (ho : mroIn (Mine.hk.heap_1 w.params) C (.type "object") = some true) (ha : findIn (Mine.hk.heap_1 w.params) (.ref C) (Str.ofString "message") = some none)
    (x : Str) (tx : TC) (news : Led) :
    Con w (.ref C) [.str x tx] 3 news (fun r N => ∃ e oe, r = .ref e ∧ N = (e, oe) :: news ∧ ExcIs oe C ∧ ∀ p ∈ news, p.1 ≠ e) := by
  unfold Con
  k_fill
  intro dp un gd cn cs a ccd cl outer A₀ base h₀ L m s Q E p loose mean mg mb B F X N T hk hd hu hret
  obtain ⟨nm, q, NN, bs, sn, sub, ab, col, dd, k0, k1, k2, k3, k5, hCl⟩ := hC
  have Xs := X.keeps F.keep
  obtain ⟨hp, g, d, tk, os⟩ := s
  refine x_call (f := 35) (Xs _ _ hCl) (by rw [sizeLine_eq]; simp) (fun h' A' Q' E' hkk hq => ?_) (fun h' A' self Q' E' hkk hq => ?_) ?_
  · exact (looks_findIn (Xs.keeps hkk) hi).here hq
  · exact (bind_fn (Xs.keeps hkk) self hf).here hq
  have F1 := (F.push { cls := .type "tuple", data := .seq [Value.str x tx].toArray }).push { cls := .ref C, data := .fields #[.ref hp.objs.size, .none, .none, .none, .bool false, .none] }
  have N1 := (N.push F { cls := .type "tuple", data := .seq [Value.str x tx].toArray }).push (F.push _) { cls := .ref C, data := .fields #[.ref hp.objs.size, .none, .none, .none, .bool false, .none] }
  have lN : ∀ p ∈ news, p.1 < hp.objs.size := fun p hp' => Heap.lt_size (N p hp').1
  rw [Heap.size_push] at N1
  refine wpAny_call ?_
  k_dflt (refine' code_def ?k1 ?k2 ?k3 ?k4 ?k5 ?kA ?kF ?kK ?k6 ?k7 ?k8 ?k9 ?kB ?_ ?c2 ?c3 ?c4 ?c5; (case kA => exact rfl); (case kF => exact rfl); (case kK => assumption); (case k1 => k_asm); (case k2 => k_asm); (case k3 => k_asm); (case k4 => k_asm); (case k5 => k_asm); (case k6 => k_is); (case k7 => k_is); (case k8 => ktr_room); (case k9 => first | exact BindsTo.of_eq rfl | exact binds_K (by k_in) rfl (by k_is) rfl rfl rfl); (case c5 => decide); (case kB => exact locs rfl); (case c2 => exact rfl); (case c3 => exact rfl); (case c4 => exact rfl); k_whole; intro g' L' h' FG' F' N' B' X' T'; (try dsimp only); (try k_fold))
  k_steps
  obtain ⟨cdd, hc, hm, hdd⟩ : ∃ cd, clsIn (Mine.hk.heap_1 w.params) C = some cd ∧ cd.mro = .ref C :: xbm ∧ cd.hasDict = true := ⟨_, by unfold clsIn; rw [hCl], rfl, rfl⟩
  have oL := (N' _ (.head _)).2.1
  have og := (N' _ (.head _)).2.2
  refine x_setattr (C := C) (X'.keeps (Fr.keep (by assumption))) (N' _ (.head _)).1 hs hc hm hdd ho ha fun h2 tk2 hx2 hk2 => ?_
  have F2 := fr_but (by assumption) og (Ne.symm oL) hk2
  have N2 := news_but (l := news) (news_sub N' fun p hp' => .tail _ (.tail _ hp')) (fun p hp' => Nat.ne_of_lt (Nat.lt_succ_of_lt (lN p hp'))) hk2
  have N3 : News g' L' h2 ((hp.objs.size + 1, ⟨.ref C, some h'.objs.size, .fields #[.ref hp.objs.size, .none, .none, .none, .bool false, .none], #[]⟩) :: news) :=
    fun p hp' => (List.mem_cons.mp hp').elim (fun e => by subst e; exact ⟨hx2, oL, og⟩) (N2 p)
  clear N2 N' F' N1
  dsimp only
  k_steps
  exact hret _ _ _ _ ⟨_, _, rfl, rfl, ⟨_, _, _, rfl⟩, fun p hp' => Nat.ne_of_lt (Nat.lt_succ_of_lt (lN p hp'))⟩ (by k_asm) (by k_asm)
/-- «raise X(..)»: what is made is in flight -/
theorem raise_x {prog : Program} {w : World} {A : Around} {E : Value → Shared → Prop} {Q : Flow → Shared → Prop} {s : Shared} {env : Env} {x : Expr} {pos : Pos} {K : Frag} {g₀ : Heap} {C : Addr} (_ : K.In g₀) (hC : IsExcCls K C) (hh : A.handled = none)
    (h : wpAny (model prog w) A (eval x env) (fun v s₁ => ∃ e oe, v = .ref e ∧ K.In s₁.heap ∧ s₁.heap.get? e = some oe ∧ ExcIs oe C ∧ E (.ref e) s₁) E s) :
    wpAny (model prog w) A (exec (.Raise (some x) none pos) env) Q E s := by
  obtain ⟨nm, q, NN, bs, sn, sub, ab, col, dd, k0, k1, k2, k3, k5, hCl⟩ := hC
  have hcB : (Value.ref C :: xbm).contains (.type "BaseException") = true := by rw [List.contains_cons]; simp
  rw [arm_exec_Raise]
  refine wpAny_bind (wpAny_standAt ?_)
  simp only [evalOpt, Option.map]
  unfold raiseStmt
  refine wpAny_bind (wpAny_bind (wpAny_mono h (fun v s₁ h₁ => wpAny_bind (wpAny_standAt (wpAny_pure ?_))) fun _ _ x => x))
  obtain ⟨e, oe, rfl, X, he, ⟨dx, slx, a0, rfl⟩, hE⟩ := h₁
  have hC := X _ _ hCl
  obtain ⟨hp, g, d, tk, os⟩ := s₁
  repeat (first | with_reducible refine wpAny_loadPart_at he ?_ | with_reducible refine wpAny_loadPart_at hC ?_ | (with_reducible refine wpAny_isSubtype_exc hC ?_; rw [hcB]) | wp_step)
  exact wpAny_raiseNew_none hh hE
section
variable {M : Model} {A : Around} {E : Value → Shared → Prop} {s' : Shared} {base g : Heap} {outer : List Env} {L a e C : Addr} {oe : Obj} {m : Str → Option Value} {name : Str} {scope : Scope} {cd : Value} {Q : Unit → Shared → Prop} {news : Led}
/-- a new exception of the text's leaves the frame that raised it -/
theorem leave_x (K : Below A base outer g) (F : Fr g L s'.heap m) (N : News g L s'.heap ((e, oe) :: news)) (hX : ExcIs oe C) (hne : ∀ p ∈ news, p.1 ≠ e)
    (hQ : ∀ h', RaisedSN base g outer e (.ref C) news h' → g.UpToSlots h' → Q () { s' with heap := h' }) (hk : scope.kind = .function) :
    wpAny M (A.deeper (envOf name scope L a cd)) (leaving (envOf name scope L a cd) (.ref e)) Q E s' := by
  have K' := K.push (name := name) (a := a) (cd := cd) F hk
  obtain ⟨he, heL, heg⟩ := N _ (.head _)
  dsimp only at he heL heg
  have hbe : base.get? e = none := fresh_of_stays K.stays heg
  let fs := (envOf name scope L a cd :: outer).filterMap (·.frame)
  have off : ∀ b, b ≠ e → b ∉ fs → b ∉ e :: fs := fun b h1 h2 h3 => (List.mem_cons.mp h3).elim h1 h2
  have hef : e ∉ fs := fun hm => by
    obtain ⟨o, ho, hnd⟩ := (K'.frames.mem hm).2
    rw [he] at ho
    obtain ⟨d, sl, a0, rfl⟩ := hX
    cases ho
    exact hnd _ rfl
  have st : base.StaysIn (hideAll s'.heap (e :: fs)) := fun b o q => hideAll_get _ (K'.stays b o q) (off b (fun z => by rw [z, hbe] at q; cases q) fun hm => by
    rw [(K'.frames.mem hm).1] at q; cases q)
  have sg : ∀ b o, g.get? b = some o → b ∉ outer.filterMap (·.frame) → (hideAll s'.heap (e :: fs)).get? b = some o := fun b o q nm => hideAll_get _ (F.keep b o q) (off b (fun z => by rw [z, heg] at q; cases q) fun hm => by
    rcases kts_mem hm with z | z
    · rw [z, kts_self F] at q
      cases q
    · exact nm z)
  have hl : ∀ q ∈ news, (hideAll s'.heap (e :: fs)).get? q.1 = some q.2 ∧ g.get? q.1 = none ∧ base.get? q.1 = none := fun q hq => by
    have Nq := N q (.tail _ hq)
    refine ⟨hideAll_get _ Nq.1 (off _ (hne q hq) fun hm => ?_), Nq.2.2, fresh_of_stays K.stays Nq.2.2⟩
    rcases kts_mem hm with z | z
    · exact Nq.2.1 z
    · obtain ⟨o, ho, _⟩ := (K.frames.mem z).2
      rw [Nq.2.2] at ho; cases ho
  have fr : (s'.heap).FunFrames (hideAll s'.heap (e :: fs)) (envOf name scope L a cd :: outer) := by
    have : ∀ l : List Env, (∀ env ∈ l, ∀ b, env.frame = some b → b ∈ e :: fs) → s'.heap.FunFrames base l → s'.heap.FunFrames (hideAll s'.heap (e :: fs)) l := by
      intro l
      induction l with
      | nil => exact fun _ _ => trivial
      | cons env r ih =>
        rintro hin ⟨hk', ⟨L', o, hf, _, ho, hd⟩, hr⟩
        exact ⟨hk', ⟨L', o, hf, hideAll_none _ (hin env (.head _) L' hf), ho, hd⟩, ih (fun v hv => hin v (.tail _ hv)) hr⟩
    exact this _ (fun env hv b hb => .tail _ (List.mem_filterMap.mpr ⟨env, hv, hb⟩)) K'.frames
  obtain ⟨d, sl, a0, rfl⟩ := hX
  refine wpAny_leaving_firstW (a0 := a0) K'.stack fr rfl he (fun b o hb => of_hideAll _ hb) (hideAll_none _ (.head _)) rfl rfl rfl fun h' hL => ?_
  obtain ⟨k1, ⟨_, _, k2⟩, k3, k4⟩ := hL
  exact hQ h' ⟨_, a0, st, sg, hl, k1, hideAll_none _ (.head _), k2, k3⟩ ((Heap.UpToSlots.of_keeps F.keep).trans k4)
end
theorem excls51 (w : World) : IsExcCls (Mine.hk.heap_1 w.params) 51 := by
  exact ⟨_, _, _, _, _, _, _, _, _, _, _, _, _, _, by k_is⟩
theorem excls63 (w : World) : IsExcCls (Mine.hk.heap_1 w.params) 63 := ⟨_, _, _, _, _, _, _, _, _, _, _, _, _, _, by k_is⟩
theorem formErr_c (w : World) (x : Str) (tx : TC) (news : Led) : Con w (.ref 51) [.str x tx] 3 news (fun r N => ∃ e oe, r = .ref e ∧ N = (e, oe) :: news ∧ ExcIs oe 51 ∧ ∀ p ∈ news, p.1 ≠ e) :=
  exc_c w 51 (excls51 w) (by k_is) (by k_is) (by k_is) (by k_is) (by k_is) x tx news
theorem sizeErr_c (w : World) (x : Str) (tx : TC) (news : Led) : Con w (.ref 63) [.str x tx] 3 news (fun r N => ∃ e oe, r = .ref e ∧ N = (e, oe) :: news ∧ ExcIs oe 63 ∧ ∀ p ∈ news, p.1 ≠ e) :=
  exc_c w 63 (excls63 w) (by k_is) (by k_is) (by k_is) (by k_is) (by k_is) x tx news

/-! contracts of defs that may raise -/
noncomputable def ConR (w : World) (f : Value) (args : List Value) (D : Nat) (N₀ : Led) (Post : Value → Led → Prop) (C : Addr) (Bad : Prop) : Prop :=
  ∀ (dp un : Nat) (gd : Option (List Code)) (cn : Str) (cs : Scope) (a : Addr) (ccd : Value) (cl : List (Str × Addr)) (outer : List Env) (A₀ : Around) (base h₀ : Heap) (L : Addr) (m : Str → Option Value) (s : Shared) (Q E : Value → Shared → Prop)
   (p : Program) (loose : List Str) (mean : ExcName → Option Value) (mg mb : Str → Option Value),
    Below A₀ base outer h₀ → Fr h₀ L s.heap m → (Mine.hk.heap_1 w.params).In h₀ → News h₀ L s.heap N₀ → Top p loose mean mg mb h₀ → cs.kind = .function →
    dp + D < recursionLimit → un + 8 * D < cLine →
    (∀ r N₁ h' tk', Post r N₁ → Fr h₀ L h' m → News h₀ L h' N₁ → Q r { s with heap := h', toks := tk' }) →
    (∀ g e h' tk', Bad → Fr h₀ L g m → RaisedSN base g (envX cn cs L a ccd cl :: outer) e (.ref C) N₀ h' → g.UpToSlots h' → E (.ref e) { s with heap := h', toks := tk' }) →
      wpAny (model PySem.Challenge.rw_nu0131_01.row.prog w) (ktrTop dp un gd cn cs L a ccd cl outer) (call f args) Q E s
theorem ConR.use {w : World} {f : Value} {args : List Value} {D : Nat} {N₀ : Led} {Post : Value → Led → Prop} {C' : Addr} {Bad : Prop} (C : ConR w f args D N₀ Post C' Bad)
  {dp un : Nat} {gd : Option (List Code)} {cn : Str} {cs : Scope} {a : Addr} {ccd : Value} {cl : List (Str × Addr)} {outer : List Env} {A₀ : Around} {base h₀ : Heap} {L : Addr} {m : Str → Option Value} {s : Shared} {Q E : Value → Shared → Prop}
  {p : Program} {loose : List Str} {mean : ExcName → Option Value} {mg mb : Str → Option Value}
    (B : Below A₀ base outer h₀) (F : Fr h₀ L s.heap m) (X : (Mine.hk.heap_1 w.params).In h₀) (N : News h₀ L s.heap N₀) (T : Top p loose mean mg mb h₀) (hk : cs.kind = .function)
    (hd : dp + D < recursionLimit) (hu : un + 8 * D < cLine)
    (ret : ∀ r N₁ h' tk', Post r N₁ → Fr h₀ L h' m → News h₀ L h' N₁ → Q r { s with heap := h', toks := tk' })
    (exc : ∀ g e h' tk', Bad → Fr h₀ L g m → RaisedSN base g (envX cn cs L a ccd cl :: outer) e (.ref C') N₀ h' → g.UpToSlots h' → E (.ref e) { s with heap := h', toks := tk' }) :
      wpAny (model PySem.Challenge.rw_nu0131_01.row.prog w) (ktrTop dp un gd cn cs L a ccd cl outer) (call f args) Q E s :=
  C dp un gd cn cs a ccd cl outer A₀ base h₀ L m s Q E p loose mean mg mb B F X N T hk hd hu ret exc
noncomputable def KonR (w : World) (f : Value) (args : List Value) (D : Nat) (N₀ : Led) (G : (Value → Led → Prop) → Prop) (C : Addr) (Bad : Prop) : Prop :=
  ∀ (dp un : Nat) (gd : Option (List Code)) (cn : Str) (cs : Scope) (a : Addr) (ccd : Value) (cl : List (Str × Addr)) (outer : List Env) (A₀ : Around) (base h₀ : Heap) (L : Addr) (m : Str → Option Value) (s : Shared) (Q E : Value → Shared → Prop)
   (p : Program) (loose : List Str) (mean : ExcName → Option Value) (mg mb : Str → Option Value),
    Below A₀ base outer h₀ → Fr h₀ L s.heap m → (Mine.hk.heap_1 w.params).In h₀ → News h₀ L s.heap N₀ → Top p loose mean mg mb h₀ → cs.kind = .function →
    dp + D < recursionLimit → un + 8 * D < cLine →
    (∀ h' tk', Fr h₀ L h' m → G fun r N₁ => News h₀ L h' N₁ → Q r { s with heap := h', toks := tk' }) → (∀ g e h' tk', Bad → Fr h₀ L g m → RaisedSN base g (envX cn cs L a ccd cl :: outer) e (.ref C) N₀ h' → g.UpToSlots h' → E (.ref e) { s with heap := h', toks := tk' }) →
      wpAny (model PySem.Challenge.rw_nu0131_01.row.prog w) (ktrTop dp un gd cn cs L a ccd cl outer) (call f args) Q E s
theorem ConR.kon {w : World} {f : Value} {args : List Value} {D : Nat} {N₀ : Led} {Post : Value → Led → Prop} {G : (Value → Led → Prop) → Prop} {C' : Addr} {Bad : Prop} (C : ConR w f args D N₀ Post C' Bad) (h : ∀ K, G K → ∀ r N, Post r N → K r N) : KonR w f args D N₀ G C' Bad :=
  fun dp un gd cn cs a ccd cl outer A₀ base h₀ L m s Q E p loose mean mg mb B F X N T hk hd hu g x => C dp un gd cn cs a ccd cl outer A₀ base h₀ L m s Q E p loose mean mg mb B F X N T hk hd hu (fun r N₁ h' tk' hP F' N' => h _ (g h' tk' F') r N₁ hP N') x
theorem KonR.go {w : World} {f : Value} {args : List Value} {D : Nat} {N₀ : Led} {G : (Value → Led → Prop) → Prop}
  {dp un : Nat} {gd : Option (List Code)} {cn : Str} {cs : Scope} {a : Addr} {ccd : Value} {cl : List (Str × Addr)} {outer : List Env} {A₀ : Around} {base h₀ : Heap} {L : Addr} {m : Str → Option Value} {s : Shared} {Q E : Value → Shared → Prop}
  {p : Program} {loose : List Str} {mean : ExcName → Option Value} {mg mb : Str → Option Value} {C' : Addr} {Bad : Prop}
    (B : Below A₀ base outer h₀) (F : Fr h₀ L s.heap m) (X : (Mine.hk.heap_1 w.params).In h₀) (N : News h₀ L s.heap N₀) (T : Top p loose mean mg mb h₀) (hk : cs.kind = .function)
    (hd : dp + D < recursionLimit) (hu : un + 8 * D < cLine) (C : KonR w f args D N₀ G C' Bad)
    (g : ∀ h' tk', Fr h₀ L h' m → G fun r N₁ => News h₀ L h' N₁ → Q r { s with heap := h', toks := tk' })
    (x : ∀ g e h' tk', Bad → Fr h₀ L g m → RaisedSN base g (envX cn cs L a ccd cl :: outer) e (.ref C') N₀ h' → g.UpToSlots h' → E (.ref e) { s with heap := h', toks := tk' }) :
      wpAny (model PySem.Challenge.rw_nu0131_01.row.prog w) (ktrTop dp un gd cn cs L a ccd cl outer) (call f args) Q E s := C dp un gd cn cs a ccd cl outer A₀ base h₀ L m s Q E p loose mean mg mb B F X N T hk hd hu g x
theorem raised_sub {base g h : Heap} {l : List Env} {e : Addr} {cls : Value} {n n' : Led} (R : RaisedSN base g l e cls n h) (hs : ∀ p ∈ n', p ∈ n) : RaisedSN base g l e cls n' h := by
  obtain ⟨B, a0, h1, h2, h3, h4⟩ := R
  exact ⟨B, a0, h1, h2, fun q hq => h3 q (hs q hq), h4⟩
/-- Bod for a def that may raise -/
noncomputable def BodR (w : World) (qual : Str) (scope : Scope) (f : Addr) (cdv : Value) (body : List Stmt) (binds : List (Str × Value)) (D : Nat) (N₀ : Led) (Post : Value → Led → Prop) (C : Addr) (Bad : Prop) (F : Fra) : Prop :=
  Below F.A₀ F.base F.outer F.g → Fr F.g F.L F.s.heap (fun y => binds.reverse.lookup y) → (Mine.hk.heap_1 w.params).In F.g → News F.g F.L F.s.heap N₀ → Top F.p F.loose F.mean F.mg F.mb F.g →
    F.dp + D < recursionLimit + 1 → F.un + 8 * D < cLine + 8 →
    PassesOwn (model PySem.Challenge.rw_nu0131_01.row.prog w) (ktrTop F.dp F.un F.gd qual scope F.L f cdv [] F.outer) (envX qual scope F.L f cdv []) F.E →
    (∀ s', F.R (.ret .none) s' → F.R .next s') →
    (∀ {m'} r N₁ h' tk', Post r N₁ → Fr F.g F.L h' m' → News F.g F.L h' N₁ → F.R (.ret r) { F.s with heap := h', toks := tk' }) →
    (∀ {m' oe} e N₁ h' tk', Bad → Fr F.g F.L h' m' → News F.g F.L h' ((e, oe) :: N₁) → ExcIs oe C → (∀ p ∈ N₁, p.1 ≠ e) → (∀ p ∈ N₀, p ∈ N₁) → F.E (.ref e) { F.s with heap := h', toks := tk' }) →
    (∀ {m' g₂} e N₁ h' tk', Bad → Fr F.g F.L g₂ m' → RaisedSN F.base g₂ (envX qual scope F.L f cdv [] :: F.outer) e (.ref C) N₁ h' → g₂.UpToSlots h' → (∀ p ∈ N₀, p ∈ N₁) → F.E (.ref e) { F.s with heap := h', toks := tk' }) →
      wpAny (model PySem.Challenge.rw_nu0131_01.row.prog w) (ktrTop F.dp F.un F.gd qual scope F.L f cdv [] F.outer) (execs body (envX qual scope F.L f cdv [])) F.R F.E F.s
theorem BodR.con {w : World} {args : List Value} {D : Nat} {N₀ : Led} {Post : Value → Led → Prop} {C : Addr} {Bad : Prop}
    {name qual : Str} {params : Arguments} {body : List Stmt} {scope : Scope} {dV kV doc pm cdv ct oc : Value} {an od : Option Addr} {osl : Array (Option Value)} {f : Addr} {binds : List (Str × Value)}
    (ho : (Mine.hk.heap_1 w.params).lookup f = some ⟨oc, od, .func (fnOf name qual params body scope dV kV doc pm an cdv ct), osl⟩) (hcd : codeIn (Mine.hk.heap_1 w.params) cdv qual = true)
    (hbind : ∀ s, (Mine.hk.heap_1 w.params).In s.heap → BindsTo s (fnOf name qual params body scope dV kV doc pm an cdv ct) ⟨args, []⟩ binds) (hloc : ∀ y ∈ binds, scope.names.lookup y.1 = some .local)
    (hco : scope.isCoroutine = false) (hgen : scope.isGenerator = false) (hk : scope.kind = .function) (hcell : ∀ x ∈ scope.names, x.2 ≠ .cell)
    (hD : 1 ≤ D) (h : ∀ F, BodR w qual scope f cdv body binds D N₀ Post C Bad F) : ConR w (.ref f) args D N₀ Post C Bad := by
  intro dp un gd cn cs a ccd cl outer A₀ base h₀ L m s Q E p loose mean mg mb B F X N T hk' hd hu hret hexc
  refine wpAny_call ?_
  refine code_def B F X N T (A := ktrTop dp un gd cn cs L a ccd cl outer) (outer := outer) rfl rfl hk' ho hcd (show dp < recursionLimit by lia) (hbind s (X.keeps F.keep)) hloc ?_ hco hgen hk hcell
  intro g' L' h' FG' F' N' B' X' T'
  refine h ⟨dp + 1, un + 3, gd, _, _, base, g', L', _, _, _, p, loose, mean, mg, mb, listOf #[] 0⟩ B' F' X' N' T' (by show dp + 1 + D < recursionLimit + 1; lia) (by show un + 3 + 8 * D < cLine + 8; lia) (by passes_own) (fun _ x => x) ?_ ?_ ?_
  · intro m' r N₁ h₂ tk' hP hF hN
    refine ⟨L', m', N₁, hF, hN, ?_⟩
    intro hF2 hN2
    exact hret _ _ _ _ hP hF2 hN2
  · intro m' oe e N₁ h₂ tk' hBad hF hN hX hne hs
    refine leave_x B' hF hN hX hne ?_ hk
    intro h3 R3 U3
    exact hexc _ _ _ _ hBad FG' (raised_sub R3 hs) U3
  · intro m' g₂ e N₁ h₂ tk' hBad hF hR hU hs
    refine leave_onSN B' hF hR hU ?_
    intro h3 R3 _ U3
    exact hexc _ _ _ _ hBad FG' (raised_sub R3 hs) U3
noncomputable def BodKR (w : World) (f : Addr) (args : List Value) (D : Nat) (N₀ : Led) (Post : Value → Led → Prop) (C : Addr) (Bad : Prop) (F : Fra) : Prop :=
  BodR w (fdOf (Mine.hk.heap_1 w.params) f).qualname (fdOf (Mine.hk.heap_1 w.params) f).scope f (fdOf (Mine.hk.heap_1 w.params) f).code (stOf (fdOf (Mine.hk.heap_1 w.params) f)) (bnOf (fdOf (Mine.hk.heap_1 w.params) f) args) D N₀ Post C Bad F
theorem BodKR.enter {w : World} {args : List Value} {D : Nat} {N₀ : Led} {Post : Value → Led → Prop} {C : Addr} {Bad : Prop} {F : Fra}
    {name qual : Str} {params : Arguments} {body : List Stmt} {scope : Scope} {dV kV doc pm cdv ct oc : Value} {an od : Option Addr} {osl : Array (Option Value)} {f : Addr} {binds : List (Str × Value)}
    (ho : (Mine.hk.heap_1 w.params).lookup f = some ⟨oc, od, .func (fnOf name qual params body scope dV kV doc pm an cdv ct), osl⟩) (hb : (params.args.map (·.arg)).zip args = binds)
    (h : BodR w qual scope f cdv body binds D N₀ Post C Bad F) : BodKR w f args D N₀ Post C Bad F := by
  unfold BodKR; rw [fdOf_is ho]; subst hb; exact h
theorem BodKR.con {w : World} {args : List Value} {D : Nat} {N₀ : Led} {Post : Value → Led → Prop} {C : Addr} {Bad : Prop}
    {name qual : Str} {params : Arguments} {body : List Stmt} {scope : Scope} {dV kV doc pm cdv ct oc : Value} {an od : Option Addr} {osl : Array (Option Value)} {f : Addr} {binds : List (Str × Value)}
    (ho : (Mine.hk.heap_1 w.params).lookup f = some ⟨oc, od, .func (fnOf name qual params body scope dV kV doc pm an cdv ct), osl⟩) (hcd : codeIn (Mine.hk.heap_1 w.params) cdv qual = true)
    (hb : (params.args.map (·.arg)).zip args = binds) (hq : ∀ s, (Mine.hk.heap_1 w.params).In s.heap → BindsTo s (fnOf name qual params body scope dV kV doc pm an cdv ct) ⟨args, []⟩ binds) (hloc : ∀ y ∈ binds, scope.names.lookup y.1 = some .local)
    (hco : scope.isCoroutine = false) (hgen : scope.isGenerator = false) (hk : scope.kind = .function) (hcell : ∀ x ∈ scope.names, x.2 ≠ .cell)
    (hD : 1 ≤ D) (h : ∀ F, BodKR w f args D N₀ Post C Bad F) : ConR w (.ref f) args D N₀ Post C Bad := by
  refine BodR.con ho hcd hq hloc hco hgen hk hcell hD fun F => ?_
  have h' := h F
  unfold BodKR at h'; rw [fdOf_is ho] at h'; subst hb; exact h'
theorem formErr_c_k (w : World) (x : Str) (tx : TC) (news : Led)  :
   Kon w (.ref 51) [.str x tx] 3 news (fun K9 => ∀ e oe, (ExcIs oe 51) → (∀ p ∈ news, p.1 ≠ e) → K9 (.ref e) ((e, oe) :: news))  :=
  Con.kon (formErr_c w x tx news) (by
    rintro K9 g9 r9 N9 ⟨v0, v1, rfl, rfl, v2, v3⟩
    exact g9 v0 v1 v2 v3)
theorem sizeErr_c_k (w : World) (x : Str) (tx : TC) (news : Led)  :
   Kon w (.ref 63) [.str x tx] 3 news (fun K9 => ∀ e oe, (ExcIs oe 63) → (∀ p ∈ news, p.1 ≠ e) → K9 (.ref e) ((e, oe) :: news))  :=
  Con.kon (sizeErr_c w x tx news) (by
    rintro K9 g9 r9 N9 ⟨v0, v1, rfl, rfl, v2, v3⟩
    exact g9 v0 v1 v2 v3)
theorem reg_p07_0 : True := by
  k_with "call ref" => (k_here; (with_reducible show wpAny _ _ (call (Value.ref 51) _) _ _ _); k_dflt (refine' Kon.go ?_ ?_ ?_ ?_ ?_ ?_ ?_ ?_ ?_ ?_; walk_at "side 0"; (any_goals ((with_reducible show Kon _ _ _ _ _ _); exact (formErr_c_k _ _ _ _))); walk_at "side 9"); intro _ _ _ _ _ _ _ _)
  k_with "call ref" => (k_here; (with_reducible show wpAny _ _ (call (Value.ref 63) _) _ _ _); k_dflt (refine' Kon.go ?_ ?_ ?_ ?_ ?_ ?_ ?_ ?_ ?_ ?_; walk_at "side 0"; (any_goals ((with_reducible show Kon _ _ _ _ _ _); exact (sizeErr_c_k _ _ _ _))); walk_at "side 9"); intro _ _ _ _ _ _ _ _)
  k_with "exec Raise some none" => (k_here; (with_reducible show wpAny _ _ (exec (Stmt.Raise (some (Expr.Call (Expr.Name "FormError" _) _ _ _)) none _) _) _ _ _); k_dflt (refine' raise_x ?X0 ?hC ?hh ?_; (case X0 => k_asm); (case hC => exact excls51 _); (case hh => rfl)))
  k_with "exec Raise some none" => (k_here; (with_reducible show wpAny _ _ (exec (Stmt.Raise (some (Expr.Call (Expr.Name "SizeError" _) _ _ _)) none _) _) _ _ _); k_dflt (refine' raise_x ?X0 ?hC ?hh ?_; (case X0 => k_asm); (case hC => exact excls63 _); (case hh => rfl)))
  k_with "Exists" => (k_here; (rename ExcIs _ _ => hX9); (rename News _ _ _ _ => N9); refine' ⟨_, _, rfl, Frag.In.keeps (by k_asm) (Fr.keep (by k_asm)), (N9 _ (.head _)).1, hX9, ?_⟩)
  k_with "leaving ref" => (k_here; k_dflt (first
  | (refine' leave_onSN ?K ?F ?R ?U ?_; (case R => assumption); (case K => assumption); (case U => assumption); (case F => assumption); intro _ R' _ U'; (try dsimp only at R' U' ⊢))
  | (refine' leave_x ?K ?F ?N ?hX ?hne ?_ ?hk; (case hX => assumption); (case K => assumption); (case F => k_asm); (case N => k_asm); (case hne => assumption); (case hk => rfl); intro _ R' U'; (try dsimp only at R' U' ⊢))))
  trivial
noncomputable def sizeGood (ks : List Int) (i : Int) : Prop := (i + 1 < ks.length ∧ 2 ≤ ks.getD (i + 1).toNat 0 ∧ i + ks.getD (i + 1).toNat 0 ≤ ks.length)
noncomputable def size_at_c_S (z : Fra × World × Array UInt8 × TC × List Int × Int × TC × Led) : Prop :=
  (fun (F9 : Fra) (w : World) (b : Array UInt8) (tb : TC) (ks : List Int) (i : Int) (ti : TC) (news : Led) => ∀ (hb : BI b = ks), ∀ (h0 : 0 ≤ i), ∀ (hi : i < ks.length), ∀ (hl : ks.length ≤ 100000), BodKR w 271 [.bytes b tb, .int i ti] 5 news (fun r N => N = news ∧ ∃ t, r = .int (ks.getD (i + 1).toNat 0) t ∧ sizeGood ks i) 51 (¬ sizeGood ks i) F9) (z.1) (z.2.1) (z.2.2.1) (z.2.2.2.1) (z.2.2.2.2.1) (z.2.2.2.2.2.1) (z.2.2.2.2.2.2.1) (z.2.2.2.2.2.2.2)
@[irreducible] noncomputable def size_at_c_z : Fra × World × Array UInt8 × TC × List Int × Int × TC × Led := wit (fra0, wrl0, #[], 0, [], 0, 0, []) size_at_c_S
namespace size_at_c_
@[irreducible] noncomputable def F9 : Fra := size_at_c_z.1
@[irreducible] noncomputable def w : World := size_at_c_z.2.1
@[irreducible] noncomputable def b : Array UInt8 := size_at_c_z.2.2.1
@[irreducible] noncomputable def tb : TC := size_at_c_z.2.2.2.1
@[irreducible] noncomputable def ks : List Int := size_at_c_z.2.2.2.2.1
@[irreducible] noncomputable def i : Int := size_at_c_z.2.2.2.2.2.1
@[irreducible] noncomputable def ti : TC := size_at_c_z.2.2.2.2.2.2.1
@[irreducible] noncomputable def news : Led := size_at_c_z.2.2.2.2.2.2.2
theorem run : ∀ (hb : BI b = ks), ∀ (h0 : 0 ≤ i), ∀ (hi : i < ks.length), ∀ (hl : ks.length ≤ 100000), BodKR w 271 [.bytes b tb, .int i ti] 5 news (fun r N => N = news ∧ ∃ t, r = .int (ks.getD (i + 1).toNat 0) t ∧ sizeGood ks i) 51 (¬ sizeGood ks i) F9 := by
  intro hb h0 hi hl
  have hB := inB_of hb
  have i1 := getD_inB hB (i + 1).toNat
  refine' BodKR.enter ?ho ?hb ?_; (case ho => k_is); (case hb => first | (dsimp only [List.map, List.zip, List.zipWith]; done) | (dsimp only [List.map, List.zip, List.zipWith]; exact rfl))
  intro B' F' X' N' T' hd hu hPE hnx hret hexa hexb
  k_steps
  all_goals first
    | (first | (refine' hexa _ _ _ _ ?bad ?FG ?N ?X ?ne ?sub; (case N => k_asm); (case X => assumption); (case FG => k_asm); (case ne => assumption); (case sub => (first | exact fun _ hp => hp | exact (show SubL _ _ by k_extra "sub") | (intro p hp; simp only [List.mem_cons, List.mem_append, hp, or_true, true_or]))); (case bad => unfold sizeGood; lia)) | (refine' hexb _ _ _ _ ?bad ?FG ?R ?U ?sub; (case R => assumption); (case FG => assumption); (case U => assumption); (case sub => (first | exact fun _ hp => hp | exact (show SubL _ _ by k_extra "sub") | (intro p hp; simp only [List.mem_cons, List.mem_append, hp, or_true, true_or]))); (case bad => unfold sizeGood; lia)))
    | ((try with_reducible refine hnx _ ?_); exact hret _ _ _ _ ⟨rfl, _, rfl, by unfold sizeGood; first | exact ⟨Int.not_le.mp (by assumption), Int.not_lt.mp (by assumption), Int.not_lt.mp (by assumption)⟩ | lia⟩ (by k_asm) (by first | k_asm | exact news_subL (by assumption) (by k_extra "sub") | exact news_sub (by assumption) (by intro p hp; (try simp only [List.mem_cons, List.mem_append] at hp ⊢); grind)))
end size_at_c_
theorem size_at_c (w : World) (b : Array UInt8) (tb : TC) (ks : List Int) (i : Int) (ti : TC) (news : Led) (hb : BI b = ks) (h0 : 0 ≤ i) (hi : i < ks.length) (hl : ks.length ≤ 100000)  : ConR w (.ref 271) [.bytes b tb, .int i ti] 5 news (fun r N => N = news ∧ ∃ t, r = .int (ks.getD (i + 1).toNat 0) t ∧ sizeGood ks i) 51 (¬ sizeGood ks i) := by
  refine' BodKR.con ?ho ?hcd ?hb ?hq ?hloc ?hco ?hgen ?hk ?hcell ?hD (fun F9 => @wit_all _ (fra0, wrl0, #[], 0, [], 0, 0, []) size_at_c_S (by with_unfolding_all exact size_at_c_.run) (F9, w, b, tb, ks, i, ti, news) hb h0 hi hl); (case ho => k_is); (case hcd => k_is); (case hb => first | (dsimp only [List.map, List.zip, List.zipWith]; done) | (dsimp only [List.map, List.zip, List.zipWith]; exact rfl)); (case hq => first | exact fun _ _ => BindsTo.of_eq rfl | (intro s7 X7; exact binds_K X7 rfl (by k_is) rfl rfl rfl)); (case hloc => exact locs rfl); (case hco => exact rfl); (case hgen => exact rfl); (case hk => exact rfl); (case hcell => decide); (case hD => decide)

theorem size_at_c_k (w : World) (b : Array UInt8) (tb : TC) (ks : List Int) (i : Int) (ti : TC) (news : Led) (hb : BI b = ks) (h0 : 0 ≤ i) (hi : i < ks.length) (hl : ks.length ≤ 100000)  :
   KonR w (.ref 271) [.bytes b tb, .int i ti] 5 news (fun K9 => ∀ t, (sizeGood ks i) → K9 (.int (ks.getD (i + 1).toNat 0) t) (news)) 51 (¬ sizeGood ks i) :=
  ConR.kon (size_at_c w b tb ks i ti news hb h0 hi hl) (by
    rintro K9 g9 r9 N9 ⟨rfl, v0, rfl, v1⟩
    exact g9 v0 v1)
theorem reg_p07_1 : True := by
  k_with "call ref" => (k_here; (with_reducible show wpAny _ _ (call (Value.ref 271) _) _ _ _); k_dflt (refine' KonR.go ?_ ?_ ?_ ?_ ?_ ?_ ?_ ?_ ?_ ?_ ?_; walk_at "side 0"; (any_goals ((with_reducible show KonR _ _ _ _ _ _ _ _); exact (size_at_c_k _ _ _ _ _ _ _ (by assumption) (by lia) (by lia) (by lia)))); walk_at "side 9"; intro _ _ _ _ hS' _; (have hS2' := hS'; obtain ⟨hg1', hg2', hg3'⟩ := hS2'); rotate_left 1; intro _ _ _ _ _ _ _ _; (try dsimp only)))
  trivial
noncomputable def headGood (ks : List Int) : Prop := (20 ≤ ks.length ∧ ks.getD 0 0 / 16 = 4 ∧ 20 ≤ ks.getD 0 0 % 16 * 4 ∧ ks.getD 0 0 % 16 * 4 ≤ ks.length)
noncomputable def head_size_c_S (z : Fra × World × Array UInt8 × TC × List Int × Led) : Prop :=
  (fun (F9 : Fra) (w : World) (b : Array UInt8) (tb : TC) (ks : List Int) (news : Led) => ∀ (hb : BI b = ks), ∀ (hl : ks.length ≤ 100000), BodKR w 229 [.bytes b tb] 5 news (fun r N => N = news ∧ ∃ t, r = .int (ks.getD 0 0 % 16 * 4) t ∧ headGood ks) 51 (¬ headGood ks) F9) (z.1) (z.2.1) (z.2.2.1) (z.2.2.2.1) (z.2.2.2.2.1) (z.2.2.2.2.2)
@[irreducible] noncomputable def head_size_c_z : Fra × World × Array UInt8 × TC × List Int × Led := wit (fra0, wrl0, #[], 0, [], []) head_size_c_S
namespace head_size_c_
@[irreducible] noncomputable def F9 : Fra := head_size_c_z.1
@[irreducible] noncomputable def w : World := head_size_c_z.2.1
@[irreducible] noncomputable def b : Array UInt8 := head_size_c_z.2.2.1
@[irreducible] noncomputable def tb : TC := head_size_c_z.2.2.2.1
@[irreducible] noncomputable def ks : List Int := head_size_c_z.2.2.2.2.1
@[irreducible] noncomputable def news : Led := head_size_c_z.2.2.2.2.2
theorem run : ∀ (hb : BI b = ks), ∀ (hl : ks.length ≤ 100000), BodKR w 229 [.bytes b tb] 5 news (fun r N => N = news ∧ ∃ t, r = .int (ks.getD 0 0 % 16 * 4) t ∧ headGood ks) 51 (¬ headGood ks) F9 := by
  intro hb hl
  have hB := inB_of hb
  have i1 := getD_inB hB 0
  refine' BodKR.enter ?ho ?hb ?_; (case ho => k_is); (case hb => first | (dsimp only [List.map, List.zip, List.zipWith]; done) | (dsimp only [List.map, List.zip, List.zipWith]; exact rfl))
  intro B' F' X' N' T' hd hu hPE hnx hret hexa hexb
  k_steps
  all_goals first
    | (first | (refine' hexa _ _ _ _ ?bad ?FG ?N ?X ?ne ?sub; (case N => k_asm); (case X => assumption); (case FG => k_asm); (case ne => assumption); (case sub => (first | exact fun _ hp => hp | exact (show SubL _ _ by k_extra "sub") | (intro p hp; simp only [List.mem_cons, List.mem_append, hp, or_true, true_or]))); (case bad => unfold headGood; lia)) | (refine' hexb _ _ _ _ ?bad ?FG ?R ?U ?sub; (case R => assumption); (case FG => assumption); (case U => assumption); (case sub => (first | exact fun _ hp => hp | exact (show SubL _ _ by k_extra "sub") | (intro p hp; simp only [List.mem_cons, List.mem_append, hp, or_true, true_or]))); (case bad => unfold headGood; lia)))
    | ((try with_reducible refine hnx _ ?_); exact hret _ _ _ _ ⟨rfl, _, rfl, by unfold headGood; first | exact ⟨Int.ofNat_le.mp (Int.not_lt.mp (by assumption)), by assumption, Int.not_lt.mp (by assumption), Int.not_lt.mp (by assumption)⟩ | lia⟩ (by k_asm) (by first | k_asm | exact news_subL (by assumption) (by k_extra "sub") | exact news_sub (by assumption) (by intro p hp; (try simp only [List.mem_cons, List.mem_append] at hp ⊢); grind)))
end head_size_c_
theorem head_size_c (w : World) (b : Array UInt8) (tb : TC) (ks : List Int) (news : Led) (hb : BI b = ks) (hl : ks.length ≤ 100000)  : ConR w (.ref 229) [.bytes b tb] 5 news (fun r N => N = news ∧ ∃ t, r = .int (ks.getD 0 0 % 16 * 4) t ∧ headGood ks) 51 (¬ headGood ks) := by
  refine' BodKR.con ?ho ?hcd ?hb ?hq ?hloc ?hco ?hgen ?hk ?hcell ?hD (fun F9 => @wit_all _ (fra0, wrl0, #[], 0, [], []) head_size_c_S (by with_unfolding_all exact head_size_c_.run) (F9, w, b, tb, ks, news) hb hl); (case ho => k_is); (case hcd => k_is); (case hb => first | (dsimp only [List.map, List.zip, List.zipWith]; done) | (dsimp only [List.map, List.zip, List.zipWith]; exact rfl)); (case hq => first | exact fun _ _ => BindsTo.of_eq rfl | (intro s7 X7; exact binds_K X7 rfl (by k_is) rfl rfl rfl)); (case hloc => exact locs rfl); (case hco => exact rfl); (case hgen => exact rfl); (case hk => exact rfl); (case hcell => decide); (case hD => decide)

theorem head_size_c_k (w : World) (b : Array UInt8) (tb : TC) (ks : List Int) (news : Led) (hb : BI b = ks) (hl : ks.length ≤ 100000)  :
   KonR w (.ref 229) [.bytes b tb] 5 news (fun K9 => ∀ t, (headGood ks) → K9 (.int (ks.getD 0 0 % 16 * 4) t) (news)) 51 (¬ headGood ks) :=
  ConR.kon (head_size_c w b tb ks news hb hl) (by
    rintro K9 g9 r9 N9 ⟨rfl, v0, rfl, v1⟩
    exact g9 v0 v1)
theorem reg_p07_2 : True := by
  k_with "call ref" => (k_here; (with_reducible show wpAny _ _ (call (Value.ref 229) _) _ _ _); k_dflt (refine' KonR.go ?_ ?_ ?_ ?_ ?_ ?_ ?_ ?_ ?_ ?_ ?_; walk_at "side 0"; (any_goals ((with_reducible show KonR _ _ _ _ _ _ _ _); exact (head_size_c_k _ _ _ _ _ (by assumption) (by lia)))); walk_at "side 9"; intro _ _ _ _ hS' _; (have hS2' := hS'; obtain ⟨hg1', hg2', hg3', hg4'⟩ := hS2'); rotate_left 1; intro _ _ _ _ _ _ _ _; (try dsimp only)))
  trivial

/-! a for over a list or a tuple of the ledger, by its index -/
section
variable {prog : Program} {w : World} {A : Around} {E : Value → Shared → Prop} {s : Shared} {env : Env} {h₀ : Heap} {target : Expr} {body : List Stmt} {Q : Flow → Shared → Prop}
/-- the state between the turns -/
noncomputable def TS {σ : Type} (L₀ : σ → Led) (ps : σ → List (Str × Value)) (stored : List Str) (m₀ : Str → Option Value) (P : Nat → σ → Prop) (i : Nat) (m : Str → Option Value) (nx : Led) : Prop :=
  ∃ c : σ, nx = L₀ c ∧ (∀ p ∈ ps c, m p.1 = some p.2) ∧ (∀ z, (∀ p ∈ ps c, z ≠ p.1) → stored.contains z = false → m z = m₀ z) ∧ P i c
noncomputable def TEnd (h₀ : Heap) (L : Addr) (J : (Str → Option Value) → Led → Prop) (own : Led) (wr : List Addr) (s₁ s₂ : Shared) : Prop :=
  ∃ h' tk m' news' nx, s₂ = { s₁ with heap := h', toks := tk } ∧ Fr h₀ L h' m' ∧ News h₀ L h' news' ∧ (∀ p ∈ nx, p ∈ news') ∧ (∀ p ∈ own, p ∈ news') ∧ (∀ p ∈ nx, p.1 ∉ wr) ∧ J m' nx
noncomputable def TPost (h₀ : Heap) (L : Addr) (J : (Str → Option Value) → Led → Prop) (own : Led) (wr : List Addr) (s₁ : Shared) (Q : Flow → Shared → Prop) (f : Flow) (s₂ : Shared) : Prop :=
  match f with
  | .ret v => Q (.ret v) s₂
  | .brk => Q .next s₂
  | _ => TEnd h₀ L J own wr s₁ s₂
theorem tend {σ : Type} {L₀ : σ → Led} {ps : σ → List (Str × Value)} {stored : List Str} {m₀ : Str → Option Value} {P : Nat → σ → Prop} {i : Nat} (c : σ) {L : Addr} {m' : Str → Option Value} {own news' : Led} {wr : List Addr} {s₁ : Shared} {h' : Heap} {tk : Nat}
    (F : Fr h₀ L h' m') (N : News h₀ L h' news') (hn : ∀ p ∈ L₀ c, p ∈ news') (ho : ∀ p ∈ own, p ∈ news') (hw : ∀ p ∈ L₀ c, p.1 ∉ wr) (hk : ∀ p ∈ ps c, m' p.1 = some p.2) (hr : ∀ z, (∀ p ∈ ps c, z ≠ p.1) → stored.contains z = false → m' z = m₀ z) (hp : P i c) :
    TEnd h₀ L (TS L₀ ps stored m₀ P i) own wr s₁ { s₁ with heap := h', toks := tk } := ⟨h', tk, m', news', L₀ c, rfl, F, N, hn, ho, hw, c, rfl, hk, hr, hp⟩
theorem ts_fr {σ : Type} {ps : σ → List (Str × Value)} {c : σ} {stored : List Str} {m₀ m₁ : Str → Option Value} {L : Addr} {h : Heap} (h1 : ∀ p ∈ ps c, m₁ p.1 = some p.2) (h2 : ∀ z, (∀ p ∈ ps c, z ≠ p.1) → stored.contains z = false → m₁ z = m₀ z)
    (F : Fr h₀ L h m₁) : Fr h₀ L h (kstB (fun z => if stored.contains z then m₁ z else m₀ z) (ps c)) := by
  have em : kstB (fun z => if stored.contains z then m₁ z else m₀ z) (ps c) = m₁ := by
    funext y
    refine kstB_eq h1 fun hn => ?_
    show (if stored.contains y = true then m₁ y else m₀ y) = m₁ y
    cases h3 : stored.contains y with
    | true => simp
    | false => simp only [Bool.false_eq_true, if_false]; exact (h2 y hn h3).symm
  rw [em]; exact F
theorem turns_core {σ : Type} {I ax : Addr} {fp : List Addr} {n : Nat} {P' Md : Nat → Value → Heap → Prop} {St : Nat → Heap → Prop} {m₀ : Str → Option Value} {hp : Heap} {tk0 : Nat}
    (W : KTurns prog w A target I fp [I] n P' Md St) (hfp : fp = [I, ax] ∨ fp = [I]) (L₀ : σ → Led) (ps : σ → List (Str × Value)) (stored : List Str) (P : Nat → σ → Prop) (c₀ : σ)
    (hSo : ∀ i h, St i h → ∃ o, h.get? I = some o) (hL : env.locals ∉ fp) (hI₀ : h₀.get? I = none) (hnw : ∀ p ∈ L₀ c₀, p.1 < I) (hst : St 0 hp) (F : Fr h₀ env.locals hp m₀) (N : News h₀ env.locals hp (L₀ c₀)) (hk : ∀ p ∈ ps c₀, m₀ p.1 = some p.2) (hP : P 0 c₀)
    (turn : ∀ c i v (u : Str → Option Value) h tk own, i < n → P' i v h → P i c → (∀ p ∈ L₀ c, p.1 ∉ [I]) → ((∀ p ∈ own, p.1 ∈ fp) ∧ ∃ oI, (I, oI) ∈ own) →
      Fr h₀ env.locals h (kstB (fun z => if stored.contains z then u z else m₀ z) (ps c)) → News h₀ env.locals h (L₀ c ++ own) →
      wpAny (model prog w) A (assign target env v) (fun _ s₃ => wpAny (model prog w) A (execs body env) (TPost h₀ env.locals (TS L₀ ps stored m₀ P (i + 1)) own [I] { s with heap := h, toks := tk } Q) E s₃) E { s with heap := h, toks := tk })
    (done : ∀ c (u : Str → Option Value) h tk, P n c → Fr h₀ env.locals h (kstB (fun z => if stored.contains z then u z else m₀ z) (ps c)) → News h₀ env.locals h (L₀ c) → Q .next { s with heap := h, toks := tk }) :
    TurnsAt prog w A h₀ env target body Q E (.ref I) { s with heap := hp, toks := tk0 } := by
  refine ⟨I, fp, [I], n, P', Md, St, m₀, L₀ c₀, fun i m nx => TS L₀ ps stored m₀ P i m nx, rfl, W, hL, fun b hb => by rw [List.mem_singleton.mp hb]; exact hI₀, fun p hp' hI => absurd (hnw p hp') ((List.mem_singleton.mp hI) ▸ Nat.lt_irrefl _), hst, F, N,
    ⟨c₀, rfl, hk, fun _ _ _ => rfl, hP⟩, ?_, ?_⟩
  · rintro i v m₁ news₁ h₁ tk₁ own hi hv ⟨c, rfl, h1, h2, hPc⟩ hoff hown _ hin hst₁ F₁ N₁
    obtain ⟨oI, heI⟩ := hSo _ _ hst₁
    have hinI : (I, oI) ∈ own := hin I (by rcases hfp with rfl | rfl <;> exact List.mem_cons_self) hI₀ oI heI
    have N₂ : News h₀ env.locals h₁ (L₀ c ++ own) := fun p hp' => N₁ p ((List.mem_append.mp hp').elim (fun h => List.mem_append.mpr (.inr h)) fun h => List.mem_append.mpr (.inl h))
    refine wpAny_mono (turn c i v m₁ h₁ tk₁ own hi hv hPc hoff ⟨hown, _, hinI⟩ (ts_fr h1 h2 F₁) N₂) (fun _ s₃ q => wpAny_mono q (fun f s₂ p => ?_) fun _ _ e => e) fun _ _ e => e
    have fin : TEnd h₀ env.locals (TS L₀ ps stored m₀ P (i + 1)) own [I] { s with heap := h₁, toks := tk₁ } s₂ → LoopStepU h₀ env.locals [I] own (fun m nx => TS L₀ ps stored m₀ P (i + 1) m nx) { s with heap := h₁, toks := tk₁ } .next s₂ := by
      rintro ⟨h', tk, m', news', nx, e, F', N', hn, ho, hw, hJ⟩
      exact ⟨rfl, h', tk, m', nx, e, F', fun p hp' => N' p ((List.mem_append.mp hp').elim (ho p) (hn p)), hw, hJ⟩
    cases f with
    | ret v => exact .ret p
    | brk => exact .brk p
    | next => exact .next (fin p)
    | cont => exact .cont (fin p)
  · rintro h' tk m' news' F' N' _ ⟨c, rfl, h1, h2, hPc⟩
    exact done c m' h' tk hPc (ts_fr h1 h2 F') N'
theorem seq_turns {σ : Type} {ax : Addr} {lo : Obj} {vs : List Value} {nn : Nat} {m₀ : Str → Option Value} (L₀ : σ → Led) (ps : σ → List (Str × Value)) (stored : List Str) (P : Nat → σ → Prop) (c₀ : σ)
    (hh : A.handled = none) (F : Fr h₀ env.locals s.heap m₀) (N : News h₀ env.locals s.heap (L₀ c₀)) (hm : (ax, lo) ∈ L₀ c₀) (hc : lo.cls = .type "list" ∨ lo.cls = .type "tuple") (hd : lo.data = .seq vs.toArray nn) (hk : ∀ p ∈ ps c₀, m₀ p.1 = some p.2) (hP : P 0 c₀)
    (turn : ∀ c i v (u : Str → Option Value) h tk own (I : Addr), vs[i]? = some v → P i c → (∀ p ∈ L₀ c, p.1 ∉ [I]) → (∀ p ∈ L₀ c₀, p.1 < I) → ((∀ p ∈ own, p.1 ∈ [I, ax]) ∧ ∃ oI, (I, oI) ∈ own) →
      Fr h₀ env.locals h (kstB (fun z => if stored.contains z then u z else m₀ z) (ps c)) → News h₀ env.locals h (L₀ c ++ own) →
      wpAny (model prog w) A (assign target env v) (fun _ s₃ => wpAny (model prog w) A (execs body env) (TPost h₀ env.locals (TS L₀ ps stored m₀ P (i + 1)) own [I] { s with heap := h, toks := tk } Q) E s₃) E { s with heap := h, toks := tk })
    (done : ∀ c (u : Str → Option Value) h tk, P vs.length c → Fr h₀ env.locals h (kstB (fun z => if stored.contains z then u z else m₀ z) (ps c)) → News h₀ env.locals h (L₀ c) → Q .next { s with heap := h, toks := tk }) :
    wpAny (model prog w) A (pyIter (.ref ax)) (fun it s₂ => TurnsAt prog w A h₀ env target body Q E it s₂) E s := by
  have hax := N _ hm
  have hlt : ax < s.heap.objs.size := Heap.lt_size hax.1
  have hne : ax ≠ s.heap.objs.size := Nat.ne_of_lt hlt
  have hL : env.locals ∉ [s.heap.objs.size, ax] := fun hI => by
    rcases List.mem_cons.mp hI with e | hI
    · exact absurd F.ns.lt (e ▸ Nat.lt_irrefl _)
    · exact hax.2.1 (List.mem_singleton.mp hI).symm
  have sz : vs.toArray.size = vs.length := by simp
  have N' : ∀ o, News h₀ env.locals (s.heap.push o) (L₀ c₀) := fun o p hp => ⟨Heap.get?_push_of_some _ (N p hp).1, (N p hp).2⟩
  rcases hc with hc | hc
  · have hl : s.heap.IsList ax vs.toArray := ⟨lo, hax.1, hc, nn, hd⟩
    refine wpAny_pyIter_list hl ?_
    refine turns_core (tk0 := s.toks) (ax := ax) (KTurns.ofWalks (Walks.list hh s.heap.objs.size ax hne vs.toArray) fun i v s Q E st q => letGo_listiter st.1 q) (.inl rfl) L₀ ps stored P c₀ (fun i h st => by obtain ⟨o, e, _⟩ := st.1; exact ⟨o, e⟩) hL (next_is_new F) (fun p hp => Heap.lt_size (N p hp).1)
      ⟨⟨_, Heap.get?_push_size _ rfl, rfl, rfl⟩, hl.at fun o e => Heap.get?_push_of_some _ e⟩ (F.push _) (N' _) hk hP ?_ (by rw [sz]; exact done)
    intro c i v u h tk own hi hv hPc hoff hown F₁ N₁
    have hv' : vs.toArray[i]? = some v := hv
    exact turn c i v u h tk own _ (by simpa using hv') hPc hoff (fun p hp => Heap.lt_size (N p hp).1) hown F₁ N₁
  · have hl : s.heap.IsTuple ax vs.toArray := ⟨lo, hax.1, hc, nn, hd⟩
    refine wpAny_pyIter_tuple hl ?_
    refine turns_core (tk0 := s.toks) (ax := ax) (KTurns.ofWalks (Walks.tuple hh s.heap.objs.size ax hne vs.toArray) fun i v s Q E st q => letGo_tupleiter st.1 q) (.inl rfl) L₀ ps stored P c₀ (fun i h st => by obtain ⟨o, e, _⟩ := st.1; exact ⟨o, e⟩) hL (next_is_new F) (fun p hp => Heap.lt_size (N p hp).1)
      ⟨⟨_, Heap.get?_push_size _ rfl, rfl, rfl⟩, hl.at fun o e => Heap.get?_push_of_some _ e⟩ (F.push _) (N' _) hk hP ?_ (by rw [sz]; exact done)
    intro c i v u h tk own hi hv hPc hoff hown F₁ N₁
    have hv' : vs.toArray[i]? = some v := hv
    exact turn c i v u h tk own _ (by simpa using hv') hPc hoff (fun p hp => Heap.lt_size (N p hp).1) hown F₁ N₁
end
theorem reg_p085_0 : True := by
  k_with "exec For Tuple Name cons nil" => (k_here; (with_unfolding_all refine' For_turns (by assumption) ?_; k_whole))
  k_with "exec For Tuple Call cons nil" => (k_here; (with_unfolding_all refine' For_turns (by assumption) ?_; k_whole))
  trivial

/-! a list comprehension over a list, a tuple or a range, with a state -/
section
open LCg
variable {prog : Program} {w : World} {A : Around} {E : Value → Shared → Prop} {s : Shared} {h₀ : Heap} {L : Addr} {m : Str → Option Value} {env : Env}
noncomputable def CBody (prog : Program) (w : World) (A : Around) (ifs : List Expr) (elt : Expr) (cenv : Env) (K : Value → Shared → Prop) (skip : Shared → Prop) (E : Value → Shared → Prop) (s : Shared) : Prop :=
  match ifs with
  | [] => wpAny (model prog w) A (eval elt cenv) K E s
  | [ct] => wpAny (model prog w) A (isTrue ct cenv (eval ct cenv)) (fun ok s' => if ok = true then wpAny (model prog w) A (eval elt cenv) K E s' else skip s') E s
  | _ => False
theorem compLoop_G {elt target iter : Expr} {ifs : List Expr} {scope : Scope} {pos : Pos} {it acc : Value} {env : Env} {R : Result → Shared → Prop} (I : Nat → Shared → Prop)
    (turn : ∀ n s, I n s → wpAny (model prog w) A (pyNext it) (fun r s₁ => match r with
      | none => R (.ok .next) s₁
      | some v => wpAny (model prog w) A (letOwnedTupleGo target it v) (fun _ s₁' => wpAny (model prog w) A (assign target env v) (fun _ s₂ =>
          CBody prog w A ifs elt env (fun x s₄ => wpAny (model prog w) A (call (.builtin "list.append") [acc, x]) (fun _ s₅ => ∃ m, m < n ∧ I m s₅) (notedBy (model prog w) A env fun e s' => R (.error e) s') s₄)
            (fun s₃ => ∃ m, m < n ∧ I m s₃) (notedBy (model prog w) A env fun e s' => R (.error e) s') s₂)
          (notedBy (model prog w) A env fun e s' => R (.error e) s') s₁') (notedBy (model prog w) A env fun e s' => R (.error e) s') s₁) (notedBy (model prog w) A env fun e s' => R (.error e) s') s)
    (n : Nat) (h : I n s) : codeAny (model prog w) A (.compLoop (.ListComp elt [⟨target, iter, ifs, 0⟩] scope pos) 0 it acc env) R s := by
  refine codeAny_loop rfl I (fun n s hI => ?_) n h
  show wpAny _ A ((compTurn (.ListComp elt [⟨target, iter, ifs, 0⟩] scope pos) 0 it acc env).onRaise (fun x => do noteFrame x env; theTreesLotGoes x)) _ _ s
  refine wpAny_noted ?_
  rw [compTurn_list]
  refine wpAny_bind (wpAny_standAt (wpAny_bind (wpAny_mono (turn n s hI) (fun r s₁ h₁ => ?_) fun _ _ h' => h')))
  cases r with
  | none => exact wpAny_pure h₁
  | some v =>
    refine wpAny_bind (wpAny_mono h₁ (fun _ s₁' h₁' => ?_) fun _ _ h' => h')
    refine wpAny_bind (wpAny_mono h₁' (fun _ s₂ h₂ => ?_) fun _ _ h' => h')
    cases ifs with
    | nil =>
      refine wpAny_bind (wpAny_mono (wpAny_tests_nil (Q := fun ok s₃ => ok = true ∧ s₃ = s₂) ⟨rfl, rfl⟩) (fun ok s₃ h₃ => ?_) fun _ _ h' => h')
      obtain ⟨rfl, rfl⟩ := h₃
      exact wpAny_bind (wpAny_bind (wpAny_mono h₂ (fun x s₄ h₄ => wpAny_bind (wpAny_mono h₄ (fun _ s₅ h₅ => wpAny_pure (wpAny_pure ⟨rfl, h₅⟩)) fun _ _ h' => h')) fun _ _ h' => h'))
    | cons ct r =>
      cases r with
      | nil =>
        refine wpAny_bind (wpAny_mono (wpAny_tests_one h₂) (fun ok s₃ h₃ => ?_) fun _ _ h' => h')
        cases ok with
        | false => exact wpAny_pure ⟨rfl, h₃⟩
        | true => exact wpAny_bind (wpAny_bind (wpAny_mono h₃ (fun x s₄ h₄ => wpAny_bind (wpAny_mono h₄ (fun _ s₅ h₅ => wpAny_pure (wpAny_pure ⟨rfl, h₅⟩)) fun _ _ h' => h')) fun _ _ h' => h'))
      | cons _ _ => exact h₂.elim
inductive CEnd (h₀ : Heap) (L : Addr) (m : Str → Option Value) (s₁ : Shared) (I : Addr) (oI : Obj) (C : Addr) (oC : Obj) (D : Addr) (oD : Obj) (J : Led → Prop) : Shared → Prop
  | mk (h' : Heap) (tk : Nat) (news' all : Led) : Fr h₀ L h' m → News h₀ L h' all → (∀ p ∈ (I, oI) :: (C, oC) :: (D, oD) :: news', p ∈ all) → (∀ p ∈ news', p.1 ≠ I ∧ p.1 ≠ C ∧ p.1 ≠ D) → J news' → CEnd h₀ L m s₁ I oI C oC D oD J { s₁ with heap := h', toks := tk }
/-- what the names of the target hold -/
noncomputable def Bnd (target : Expr) (v : Value) (news : Led) (m₂ : Str → Option Value) : Prop :=
  match target with
  | .Name x _ => m₂ x = some v
  | .Tuple [.Name x _, .Name x₂ _] _ _ => ∃ (t : Addr) (ot : Obj) (v₁ v₂ : Value) (nt : Nat), v = .ref t ∧ (t, ot) ∈ news ∧ ot.cls = .type "tuple" ∧ ot.data = .seq #[v₁, v₂] nt ∧ m₂ x = some v₁ ∧ m₂ x₂ = some v₂
  | _ => False
/-- the target's names are the block's own; a pair's value is a tuple of the ledger -/
noncomputable def TgtOk (target : Expr) (scope : Scope) (v : Value) (news : Led) : Prop :=
  (∃ x px, target = .Name x px ∧ scope.names.lookup x = some .local) ∨
  ∃ x px x₂ px₂ tk tp, target = .Tuple [.Name x px, .Name x₂ px₂] tk tp ∧ scope.names.lookup x = some .local ∧ scope.names.lookup x₂ = some .local ∧ x ≠ x₂ ∧ ∃ (t : Addr) (ot : Obj) (v₁ v₂ : Value) (nt : Nat), v = .ref t ∧ (t, ot) ∈ news ∧ ot.cls = .type "tuple" ∧ ot.data = .seq #[v₁, v₂] nt
theorem target_G {target : Expr} {scope : Scope} {cl : List (Str × Addr)} {v : Value} {news : Led} {C I : Addr} {m' : Str → Option Value} {Q : Unit → Shared → Prop} (hk : TgtOk target scope v news) (hkind : scope.kind = .function) (hh : A.handled = none)
    (hn : s.heap.Ns C m') (hN : ∀ p ∈ news, s.heap.get? p.1 = some p.2) (hLI : (∃ x px, target = .Name x px) ∨ ∃ l j, s.heap.IsListIter I l j)
    (h : ∀ h₃ tk₃ m₃, h₃.Ns C m₃ → Bnd target v news m₃ → (∀ b o, b ≠ C → s.heap.get? b = some o → h₃.get? b = some o) → Q () { s with heap := h₃, toks := tk₃ }) :
    wpAny (model prog w) A (letOwnedTupleGo target (.ref I) v) (fun _ s₁ => wpAny (model prog w) A (assign target (compEnvC scope cl C env) v) Q E s₁) E s := by
  rcases hk with ⟨x, px, rfl, hk⟩ | ⟨x, px, x₂, px₂, tk, tp, rfl, hx, hx₂, hxx, t, ot, v₁, v₂, nt, rfl, hmt, hct, hdt⟩
  · refine wpAny_of_eq (a := ()) (by rfl) ?_
    refine wpAny_assign_Name (wpAny_storeName_local (lookup_relabel_local hk) hn (fun h₃ hn₃ hs₃ => ?_) (by simp [compEnvC, relabel, hkind]))
    exact h _ _ _ hn₃ (by show (if _ then _ else _) = _; simp) fun b o hb e => hs₃.extBut b o hb e
  · have ht : IsTup s.heap t #[v₁, v₂] := ⟨ot, hN _ hmt, hct, nt, hdt⟩
    rcases hLI with ⟨_, _, e⟩ | ⟨lI, jI, hLi⟩
    · cases e
    refine wpAny_letOwnedTupleGo_listiter hLi ?_
    refine assign_Tuple_tuple hh ht rfl rfl fun h₅ he => ?_
    have he' : ∀ b o, s.heap.get? b = some o → h₅.get? b = some o := fun b o e => he b o (Nat.ne_of_lt (Heap.lt_size e)) e
    refine assignInOrder_cons (wpAny_assign_Name (wpAny_storeName_local (lookup_relabel_local hx) (hn.at' fun o e => he' _ o e) (fun h₆ hn₆ hs₆ => ?_) (by simp [compEnvC, relabel, hkind])))
    refine assignInOrder_cons (wpAny_assign_Name (wpAny_storeName_local (lookup_relabel_local hx₂) hn₆ (fun h₃ hn₃ hs₃ => ?_) (by simp [compEnvC, relabel, hkind])))
    refine assignInOrder_nil ?_
    exact h _ _ _ hn₃ ⟨t, ot, v₁, v₂, nt, rfl, hmt, hct, hdt, by simp [hxx], by simp⟩ fun b o hb e => hs₃.extBut b o hb (hs₆.extBut b o hb (he' b o e))
inductive CInv {σ : Type} (h₀ : Heap) (L : Addr) (m : Str → Option Value) (s₂ : Shared) (I C D : Addr) (n : Nat) (St : Nat → Heap → Prop) (L₀ : σ → Led) (P : Nat → List Value → σ → Prop) : Nat → Shared → Prop
  | mk (h' : Heap) (tk i : Nat) (ys : List Value) (m' : Str → Option Value) (c : σ) : i ≤ n → ys.length ≤ i → St i h' → Fr h₀ L h' m → h'.Ns C m' → News h₀ L h' ((D, lst ys) :: L₀ c) →
      (∀ p ∈ L₀ c, p.1 ≠ I ∧ p.1 ≠ C ∧ p.1 ≠ D) → P i ys c → CInv h₀ L m s₂ I C D n St L₀ P (n + 1 - i) { s₂ with heap := h', toks := tk }
theorem comp_core {σ : Type} {elt target iter : Expr} {ifs : List Expr} {scope : Scope} {cl : List (Str × Addr)} {pos : Pos} {s₂ : Shared} {I : Addr} {fp : List Addr} {n : Nat} {Pv : Nat → Value → Prop} {St : Nat → Heap → Prop}
    {RR : Value → Addr → Result → Shared → Prop} (L₀ : σ → Led) (P : Nat → List Value → σ → Prop) (c₀ : σ)
    (W : Walks prog w A I fp [I] n Pv St) (hsz : n ≤ sizeLine) (hIo : ∀ i h, St i h → ∃ o, h.get? I = some o)
    (hSt : ∀ i h h' o c, St i h → h.get? I = some o → h'.get? I = some o → News h₀ L h' (L₀ c) → St i h')
    (hcell : ∀ y ∈ scope.names, y.2 ≠ .cell) (hkind : scope.kind = .function) (hh : A.handled = none) (hst : St 0 s₂.heap) (hfp : ∀ b ∈ fp, b < s₂.heap.objs.size)
    (F : Fr h₀ L s₂.heap m) (N : News h₀ L s₂.heap (L₀ c₀)) (hIL : L ≠ I) (hI₀ : h₀.get? I = none) (off : ∀ p ∈ L₀ c₀, p.1 ≠ I)
    (tgt : ∀ i v c, Pv i v → TgtOk target scope v (L₀ c)) (hLI : (∃ x px, target = .Name x px) ∨ ∀ i h, St i h → ∃ l j, h.IsListIter I l j)
    (turn : ∀ i v ys c oI C oC D m₂ h tk E', Pv i v → i < n → ys.length ≤ i → P i ys c → NsObj oC m₂ → Bnd target v (L₀ c) m₂ → Fr h₀ L h m → News h₀ L h ((I, oI) :: (C, oC) :: (D, lst ys) :: L₀ c) → (∀ p ∈ L₀ c, p.1 ≠ I ∧ p.1 ≠ C ∧ p.1 ≠ D) → ((@Ne Nat I C) ∧ (@Ne Nat I D) ∧ (@Ne Nat C D)) →
      CBody prog w A ifs elt (compEnvC scope cl C env) (fun y => CEnd h₀ L m { s₂ with heap := h, toks := tk } I oI C oC D (lst ys) (fun nx => ∃ c', nx = L₀ c' ∧ P (i + 1) (ys ++ [y]) c'))
        (CEnd h₀ L m { s₂ with heap := h, toks := tk } I oI C oC D (lst ys) (fun nx => ∃ c', nx = L₀ c' ∧ P (i + 1) ys c')) E' { s₂ with heap := h, toks := tk })
    (hP : P 0 [] c₀)
    (hRR : ∀ D C h tk m' ys c, Fr h₀ L h m → News h₀ L h ((D, lst ys) :: L₀ c) → (∀ p ∈ L₀ c, p.1 ≠ D) → h.Ns C m' → h₀.get? C = none → C ≠ L → C ≠ D → (∀ p ∈ L₀ c, p.1 ≠ C) → P n ys c → RR (.ref D) C (.ok .next) { s₂ with heap := h, toks := tk }) :
    wpAny (model prog w) A (newList []) (fun acc s₃ => wpAny (model prog w) A (newFunctionEnv scope env.globals cl [] env.qual none .none (some env)) (fun cenv s₄ =>
      codeAny (model prog w) A (.compStart (.ListComp elt [⟨target, iter, ifs, 0⟩] scope pos) 0 (.ref I) acc { cenv with scope := relabel scope env }) (RR acc cenv.locals) s₄) E s₃) E s₂ := by
  refine wpAny_newObj_type (wpAny_newFunctionEnv hcell (by intro y hy; simp at hy) (fun h₁ hns₁ hsb₁ => ?_) hkind)
  dsimp only at hns₁ hsb₁ ⊢
  generalize hH2 : s₂.heap.push { cls := .type "list", dict := none, data := .seq ([] : List Value).toArray } = H2 at hns₁ hsb₁ ⊢
  have hC : H2.objs.size = s₂.heap.objs.size + 1 := by rw [← hH2, Heap.size_push]
  have hDC : s₂.heap.objs.size ≠ H2.objs.size := by rw [hC]; exact Nat.ne_of_lt (Nat.lt_succ_self _)
  have below : ∀ b, b < s₂.heap.objs.size → b ≠ H2.objs.size ∧ b ≠ s₂.heap.objs.size := fun b hb => ⟨by rw [hC]; exact Nat.ne_of_lt (Nat.lt_succ_of_lt hb), Nat.ne_of_lt hb⟩
  have hDf : s₂.heap.objs.size ∉ fp := fun hm => Nat.lt_irrefl _ (hfp _ hm)
  have hCf : H2.objs.size ∉ fp := fun hm => by have := hfp _ hm; rw [hC] at this; exact Nat.lt_irrefl _ (Nat.lt_of_succ_lt this)
  have hIf : I ∈ fp := W.sub I (List.mem_singleton.mpr rfl)
  have hIlt : I < s₂.heap.objs.size := hfp I hIf
  have old : ∀ b o, s₂.heap.get? b = some o → h₁.get? b = some o := fun b o e => hsb₁.extBut b o (below b (Heap.lt_size e)).1 (Heap.get?_push_of_some _ (hH2 ▸ Heap.get?_push_of_some _ e))
  have hacc : h₁.get? s₂.heap.objs.size = some (lst []) := hsb₁.extBut _ _ hDC (Heap.get?_push_of_some _ (hH2 ▸ Heap.get?_push_size _ rfl))
  have hst₁ : St 0 h₁ := W.frame _ _ _ hst fun b _ o e => old b o e
  have fresh : ∀ a, s₂.heap.objs.size ≤ a → s₂.heap.get? a = none := fun a ha => by
    cases e : s₂.heap.get? a with
    | none => rfl
    | some o' => exact absurd (Heap.lt_size e) (Nat.not_lt.mpr ha)
  have fresh₀ : ∀ a, s₂.heap.objs.size ≤ a → h₀.get? a = none := fun a ha => by
    cases e : h₀.get? a with
    | none => rfl
    | some o' => have := F.keep a o' e; rw [fresh a ha] at this; cases this
  have hD₀ : h₀.get? s₂.heap.objs.size = none := fresh₀ _ (Nat.le_refl _)
  have hC₀ : h₀.get? H2.objs.size = none := fresh₀ _ (by rw [hC]; exact Nat.le_succ _)
  have hLlt : L < s₂.heap.objs.size := F.ns.lt
  have hDL : s₂.heap.objs.size ≠ L := Ne.symm (below L hLlt).2
  have hCL : H2.objs.size ≠ L := Ne.symm (below L hLlt).1
  have hCI : I ≠ H2.objs.size := (below I hIlt).1
  have hDI : I ≠ s₂.heap.objs.size := (below I hIlt).2
  have off₀ : ∀ p ∈ L₀ c₀, p.1 ≠ I ∧ p.1 ≠ H2.objs.size ∧ p.1 ≠ s₂.heap.objs.size := fun p hp => ⟨off p hp, (below _ (Heap.lt_size (N p hp).1)).1, (below _ (Heap.lt_size (N p hp).1)).2⟩
  have loop : ∀ s₃ : Shared, s₃ = { s₂ with heap := h₁, toks := s₂.toks + ([] : List (Str × Value)).length } →
      codeAny (model prog w) A (.compLoop (.ListComp elt [⟨target, iter, ifs, 0⟩] scope pos) 0 (.ref I) (.ref s₂.heap.objs.size) (compEnvC scope cl H2.objs.size env))
        (RR (.ref s₂.heap.objs.size) H2.objs.size) s₃ := by
    rintro s₃ rfl
    refine compLoop_G
      (CInv h₀ L m s₂ I H2.objs.size s₂.heap.objs.size n St L₀ P) ?_ (n + 1)
      (.mk h₁ _ 0 [] _ c₀ (Nat.zero_le _) (Nat.le_refl _) hst₁ (F.keeps old) hns₁ (news_cons hacc ⟨hDL, hD₀⟩ fun p hp => ⟨old _ _ (N p hp).1, (N p hp).2⟩) off₀ hP)
    · intro k s' hI9
      induction hI9 with | mk h' tk i ys m' c hi hyl hst' F' hn' N' off3 hP' => ?_
      by_cases hlt : i < n
      · refine W.item i _ _ _ hlt hst' fun v h₂ tk₂ hPv hst₂ hk₂ => ?_
        have N₂ : News h₀ L h₂ ((s₂.heap.objs.size, lst ys) :: L₀ c) := LCg.news_but N' hk₂ (List.forall_mem_cons.mpr ⟨Ne.symm hDI, fun p hp => (off3 p hp).1⟩)
        refine target_G (s := { s₂ with heap := h₂, toks := tk₂ }) (news := L₀ c) (tgt i v c hPv) hkind hh (hn'.at' fun o e => hk₂ _ o (by simpa using Ne.symm hCI) e) (fun p hp => (N₂ p (.tail _ hp)).1) (hLI.imp id fun x => x _ _ hst₂) fun h₃ tk₃ m₃ hn₃ hb₃ hs₃ => ?_
        have hst₃ : St (i + 1) h₃ := W.frame _ _ _ hst₂ fun b hb o e => hs₃ b o (fun q => hCf (by have q' : b = H2.objs.size := q; rw [← q']; exact hb)) e
        refine (hIo _ _ hst₃).elim fun oI heI => (ns_obj hn₃).elim fun oC hoC9 => ?_
        have heC := hoC9.1
        have hoC := hoC9.2
        clear hoC9
        have F₂ := LCg.fr_but F' hk₂ hIL hI₀
        have F₃ : Fr h₀ L h₃ m := Mine.fr_but F₂ hC₀ (Ne.symm hCL) hs₃
        have N₃ : News h₀ L h₃ ((I, oI) :: (H2.objs.size, oC) :: (s₂.heap.objs.size, lst ys) :: L₀ c) :=
          news_cons heI ⟨Ne.symm hIL, hI₀⟩ (news_cons heC ⟨hCL, hC₀⟩ (news_cons (hs₃ _ _ hDC (N₂ _ (.head _)).1) (N₂ _ (.head _)).2 fun p hp => ⟨hs₃ _ _ (off3 p hp).2.1 (N₂ p (.tail _ hp)).1, (N₂ p (.tail _ hp)).2⟩))
        have T := turn i v ys c oI H2.objs.size oC s₂.heap.objs.size _ h₃ tk₃ (notedBy (model prog w) A (compEnvC scope cl H2.objs.size env) fun e s' => RR (.ref s₂.heap.objs.size) H2.objs.size (.error e) s') hPv hlt hyl hP' hoC hb₃ F₃ N₃ off3 ⟨hCI, hDI, Ne.symm hDC⟩
        have skip : ∀ s₄, CEnd h₀ L m { s₂ with heap := h₃, toks := tk₃ } I oI H2.objs.size oC s₂.heap.objs.size (lst ys) (fun nx => ∃ c', nx = L₀ c' ∧ P (i + 1) ys c') s₄ →
            ∃ m₁, m₁ < n + 1 - i ∧ CInv h₀ L m s₂ I H2.objs.size s₂.heap.objs.size n St L₀ P m₁ s₄ := by
          intro s₄ hE9
          induction hE9 with | mk h₄ tk₄ news₄ all F₄ N₄ hsub off₄ hJ => ?_
          refine hJ.elim fun c' hJ' => ?_
          have e := hJ'.1
          have hP₄ := hJ'.2
          rw [e] at hsub off₄
          clear hJ hJ'
          have M₄ : News h₀ L h₄ _ := fun p hp => N₄ p (hsub p hp)
          have zI := (M₄ (I, oI) List.mem_cons_self).1
          have zC := (M₄ (H2.objs.size, oC) (List.mem_cons_of_mem _ List.mem_cons_self)).1
          have N₄' : News h₀ L h₄ (L₀ c') := fun p hp => M₄ p (List.mem_cons_of_mem _ (List.mem_cons_of_mem _ (List.mem_cons_of_mem _ hp)))
          have hst₄ : St (i + 1) h₄ := hSt _ _ _ _ _ hst₃ heI zI N₄'
          refine ⟨n + 1 - (i + 1), dec9 hlt, .mk h₄ tk₄ (i + 1) ys _ c' hlt (Nat.le_succ_of_le hyl) hst₄ F₄ (hoC.ns zC) (fun p hp => M₄ p (.tail _ (.tail _ hp))) off₄ hP₄⟩
        have more : ∀ y s₅, CEnd h₀ L m { s₂ with heap := h₃, toks := tk₃ } I oI H2.objs.size oC s₂.heap.objs.size (lst ys) (fun nx => ∃ c', nx = L₀ c' ∧ P (i + 1) (ys ++ [y]) c') s₅ →
            wpAny (model prog w) A (call (.builtin "list.append") [.ref s₂.heap.objs.size, y]) (fun _ s₄ => ∃ m₁, m₁ < n + 1 - i ∧ CInv h₀ L m s₂ I H2.objs.size s₂.heap.objs.size n St L₀ P m₁ s₄) (notedBy (model prog w) A (compEnvC scope cl H2.objs.size env) fun e s' => RR (.ref s₂.heap.objs.size) H2.objs.size (.error e) s') s₅ := by
          intro y s₅ hE9
          induction hE9 with | mk h₄ tk₄ news₄ all F₄ N₄ hsub off₄ hJ => ?_
          refine hJ.elim fun c' hJ' => ?_
          have e := hJ'.1
          have hP₄ := hJ'.2
          rw [e] at hsub off₄
          clear hJ hJ'
          have M₄ : News h₀ L h₄ _ := fun p hp => N₄ p (hsub p hp)
          have zI := (M₄ (I, oI) List.mem_cons_self).1
          have zC := (M₄ (H2.objs.size, oC) (List.mem_cons_of_mem _ List.mem_cons_self)).1
          have zD := (M₄ (s₂.heap.objs.size, lst ys) (List.mem_cons_of_mem _ (List.mem_cons_of_mem _ List.mem_cons_self))).1
          have N₄' : News h₀ L h₄ (L₀ c') := fun p hp => M₄ p (List.mem_cons_of_mem _ (List.mem_cons_of_mem _ (List.mem_cons_of_mem _ hp)))
          have hst₄ : St (i + 1) h₄ := hSt _ _ _ _ _ hst₃ heI zI N₄'
          refine append_at (hsz := by show ys.toArray.size ≤ sizeLine; rw [List.size_toArray]; exact Nat.le_trans (Nat.le_trans hyl hi) hsz) zD fun h₅ hs₅ hD₅ => ?_
          refine ⟨n + 1 - (i + 1), dec9 hlt, .mk h₅ tk₄ (i + 1) (ys ++ [y]) _ c' hlt (by rw [List.length_append, List.length_singleton]; exact Nat.succ_le_succ hyl) (W.frame _ _ _ hst₄ fun b hb o e => hs₅.extBut b o (fun q => hDf (q ▸ hb)) e) (F₄.change hs₅ hDL hD₀)
            ((hoC.ns zC).sameBut hs₅ (Ne.symm hDC)) (news_cons (hD₅.trans (congrArg some (lst_snoc ys y))) ⟨hDL, hD₀⟩ fun p hp => ⟨hs₅.extBut _ _ (off₄ p hp).2.2 (N₄' p hp).1, (N₄' p hp).2⟩) off₄ hP₄⟩
        cases ifs with
        | nil => exact wpAny_mono T (fun y s₅ q => more y s₅ q) fun _ _ e => e
        | cons ct r =>
          cases r with
          | nil =>
            refine wpAny_mono T (fun ok s₄ q => ?_) fun _ _ e => e
            cases ok with
            | true =>
              exact wpAny_mono q (fun y s₅ q => more y s₅ q) fun _ _ e => e
            | false =>
              exact skip s₄ q
          | cons _ _ => exact T.elim
      · have ei : i = n := Nat.le_antisymm hi (Nat.not_lt.mp hlt)
        rw [ei] at hst' hP'
        refine W.done _ _ _ hst' fun h₂ tk₂ hk₂ => ?_
        exact hRR _ _ h₂ tk₂ _ ys c (LCg.fr_but F' hk₂ hIL hI₀) (LCg.news_but N' hk₂ (List.forall_mem_cons.mpr ⟨Ne.symm hDI, fun p hp => (off3 p hp).1⟩)) (fun p hp => (off3 p hp).2.2) (hn'.at' fun o e => hk₂ _ o (by simpa using Ne.symm hCI) e) hC₀ hCL (Ne.symm hDC) (fun p hp => (off3 p hp).2.1) hP'
  exact codeAny_compStart_list (loop _ rfl) (W.self 0 _ _ _ hst₁ (loop _ rfl))
noncomputable def CompGo (prog : Program) (w : World) (A : Around) (env : Env) (E : Value → Shared → Prop) (elt target iter : Expr) (ifs : List Expr) (scope : Scope) (cl : List (Str × Addr)) (pos : Pos) (Q : Value → Shared → Prop) (xv : Value) (s₁ : Shared) : Prop :=
  wpAny (model prog w) A (pyIter xv) (fun it s₂ => wpAny (model prog w) A (newList []) (fun acc s₃ => wpAny (model prog w) A (newFunctionEnv scope env.globals cl [] env.qual none .none (some env)) (fun cenv s₄ =>
    codeAny (model prog w) A (.compStart (.ListComp elt [⟨target, iter, ifs, 0⟩] scope pos) 0 it acc { cenv with scope := relabel scope env }) (compPost (model prog w) A E none Q acc cenv.locals) s₄) E s₃) E s₂) E s₁
theorem ListComp_G {elt target iter : Expr} {ifs : List Expr} {scope : Scope} {cl : List (Str × Addr)} {pos : Pos} {Q : Value → Shared → Prop}
    (hclos : closureFor scope env = pure cl) (hkind : scope.kind = .function) (hnames : ∀ y ∈ scope.names, y.2 = .local → scope.names.lookup y.1 = some .local)
    (h : wpAny (model prog w) A (eval iter env) (CompGo prog w A env E elt target iter ifs scope cl pos Q) E s)
    (hs : ∀ x, foldedSetIterable iter env x = pure x := by intro _; rfl) :
    wpAny (model prog w) A (eval (.ListComp elt [⟨target, iter, ifs, 0⟩] scope pos) env) Q E s := by
  rw [eval_ListComp]
  exact wpAny_comprehension_free (use := none) rfl hs hclos hkind hnames h
theorem comp_seq {σ : Type} {ax : Addr} {lo : Obj} {vs : List Value} {nn : Nat} {elt target iter : Expr} {ifs : List Expr} {scope : Scope} {cl : List (Str × Addr)} {pos : Pos} {Q : Value → Shared → Prop} (L₀ : σ → Led) (P : Nat → List Value → σ → Prop) (c₀ : σ)
    (hh : A.handled = none) (F : Fr h₀ L s.heap m) (N : News h₀ L s.heap (L₀ c₀)) (hm : ∀ c, (ax, lo) ∈ L₀ c) (hc : lo.cls = .type "list") (hd : lo.data = .seq vs.toArray nn) (hsz : vs.length ≤ sizeLine)
    (hcell : ∀ y ∈ scope.names, y.2 ≠ .cell) (hkind : scope.kind = .function) (hP : P 0 [] c₀)
    (tgt : ∀ (i : Nat) (v : Value) (c : σ), vs[i]? = some v → TgtOk target scope v (L₀ c))
    (turn : ∀ (i : Nat) (v : Value) ys (c : σ) I oI C oC D m₂ h tk E', vs[i]? = some v → P i ys c → NsObj oC m₂ → Bnd target v (L₀ c) m₂ → Fr h₀ L h m → News h₀ L h ((I, oI) :: (C, oC) :: (D, LCg.lst ys) :: L₀ c) → (∀ p ∈ L₀ c, p.1 ≠ I ∧ p.1 ≠ C ∧ p.1 ≠ D) → ((@Ne Nat I C) ∧ (@Ne Nat I D) ∧ (@Ne Nat C D)) →
      CBody prog w A ifs elt (compEnvC scope cl C env) (fun y => CEnd h₀ L m { s with heap := h, toks := tk } I oI C oC D (LCg.lst ys) (fun nx => ∃ c', nx = L₀ c' ∧ P (i + 1) (ys ++ [y]) c'))
        (CEnd h₀ L m { s with heap := h, toks := tk } I oI C oC D (LCg.lst ys) (fun nx => ∃ c', nx = L₀ c' ∧ P (i + 1) ys c')) E' { s with heap := h, toks := tk })
    (done : ∀ D ys c h tk, P vs.length ys c → Fr h₀ L h m → News h₀ L h ((D, LCg.lst ys) :: L₀ c) → (∀ p ∈ L₀ c, p.1 ≠ D) → Q (.ref D) { s with heap := h, toks := tk }) :
    CompGo prog w A env E elt target iter ifs scope cl pos Q (.ref ax) s := by
  have hax := N _ (hm c₀)
  have hlt : ax < s.heap.objs.size := Heap.lt_size hax.1
  have sz : vs.toArray.size = vs.length := by simp
  have hl : s.heap.IsList ax vs.toArray := ⟨lo, hax.1, hc, nn, hd⟩
  refine wpAny_pyIter_list hl ?_
  have up : ∀ b o, s.heap.get? b = some o → (s.heap.push { cls := .type "list_iterator", data := .fields #[.ref ax, .int 0 0] }).get? b = some o := fun b o e => Heap.get?_push_of_some _ e
  refine comp_core (s₂ := { s with heap := s.heap.push { cls := .type "list_iterator", data := .fields #[.ref ax, .int 0 0] } }) L₀ P c₀ (Walks.list hh s.heap.objs.size ax (Nat.ne_of_lt hlt) vs.toArray) (by rw [sz]; exact hsz) (fun i h st => by obtain ⟨o, e, _⟩ := st.1; exact ⟨o, e⟩) (fun i h h' o c st e e' N' => ?_) hcell hkind hh
    ⟨⟨_, Heap.get?_push_size _ rfl, rfl, rfl⟩, hl.push _⟩ (fun b hb => ?_) (F.keeps up) (fun p hp => ⟨up _ _ (N p hp).1, (N p hp).2⟩) (Nat.ne_of_lt F.ns.lt) (next_is_new F) (fun p hp => Nat.ne_of_lt (Heap.lt_size (N p hp).1)) (fun i v c hv => tgt i v c (by simpa using hv)) (.inr fun i h st => ⟨_, _, st.1⟩)
    (fun i v ys c oI C oC D m₂ h tk E' hv _ _ hP hn hb F' N' o3 ne => turn i v ys c _ oI C oC D m₂ h tk E' (by simpa using hv) hP hn hb F' N' o3 ne) hP ?_
  · obtain ⟨⟨o₁, e₁, r₁⟩, _⟩ := st
    rw [e] at e₁; cases e₁
    exact ⟨⟨_, e', r₁⟩, ⟨lo, (N' _ (hm c)).1, hc, nn, hd⟩⟩
  · show b < (s.heap.push _).objs.size
    rw [Heap.size_push]
    rcases List.mem_cons.mp hb with rfl | hb
    · exact Nat.lt_succ_self _
    · rw [List.mem_singleton.mp hb]; exact Nat.lt_succ_of_lt hlt
  · intro D C h tk m' ys c F' N' o1 hn hC₀ hCL hCD offC hP'
    refine ⟨m', hn, fun h'' hs'' => done D ys c h'' tk (by rw [sz] at hP'; exact hP') (F'.change hs'' hCL hC₀) (fun p hp => ?_) o1⟩
    exact ⟨hs''.extBut _ _ ((List.forall_mem_cons (p := fun q => q.1 ≠ C)).mpr ⟨Ne.symm hCD, offC⟩ p hp) (N' p hp).1, (N' p hp).2⟩
theorem comp_range {σ : Type} {r : Addr} {a₀ b₀ st : Int} {t₀ u₀ v₀ : Tok} {n : Nat} {elt iter : Expr} {x : Str} {px : Pos} {ifs : List Expr} {scope : Scope} {cl : List (Str × Addr)} {pos : Pos} {Q : Value → Shared → Prop} (L₀ : σ → Led) (P : Nat → List Value → σ → Prop) (c₀ : σ)
    (hh : A.handled = none) (hr : IsRange s.heap r a₀ b₀ st t₀ u₀ v₀) (hsmall : Builtin.Range.small a₀ b₀ st = true) (hn : Builtin.Range.rangeSize a₀ b₀ st = (n : Int)) (F : Fr h₀ L s.heap m) (N : News h₀ L s.heap (L₀ c₀)) (hsz : n ≤ sizeLine)
    (hcell : ∀ y ∈ scope.names, y.2 ≠ .cell) (hkind : scope.kind = .function) (hx : scope.names.lookup x = some .local) (hP : P 0 [] c₀)
    (turn : ∀ i t ys c I oI C oC D m₂ h tk E', i < n → P i ys c → NsObj oC m₂ → m₂ x = some (.int (a₀ + (i : Int) * st) t) → Fr h₀ L h m → News h₀ L h ((I, oI) :: (C, oC) :: (D, LCg.lst ys) :: L₀ c) → (∀ p ∈ L₀ c, p.1 ≠ I ∧ p.1 ≠ C ∧ p.1 ≠ D) → ((@Ne Nat I C) ∧ (@Ne Nat I D) ∧ (@Ne Nat C D)) →
      CBody prog w A ifs elt (compEnvC scope cl C env) (fun y => CEnd h₀ L m { s with heap := h, toks := tk } I oI C oC D (LCg.lst ys) (fun nx => ∃ c', nx = L₀ c' ∧ P (i + 1) (ys ++ [y]) c'))
        (CEnd h₀ L m { s with heap := h, toks := tk } I oI C oC D (LCg.lst ys) (fun nx => ∃ c', nx = L₀ c' ∧ P (i + 1) ys c')) E' { s with heap := h, toks := tk })
    (done : ∀ D ys c h tk, P n ys c → Fr h₀ L h m → News h₀ L h ((D, LCg.lst ys) :: L₀ c) → (∀ p ∈ L₀ c, p.1 ≠ D) → Q (.ref D) { s with heap := h, toks := tk }) :
    CompGo prog w A env E elt (.Name x px) iter ifs scope cl pos Q (.ref r) s := by
  refine wpAny_pyIter_range hr hsmall ?_
  refine comp_core (I := s.heap.objs.size) L₀ P c₀ (Walks.range hh _ a₀ st n).bound hsz (fun i h st => ⟨_, st⟩) (fun i h h' o c st e e' N' => ?_) hcell hkind hh
    (by show IsRangeIter _ _ _ _ _; rw [hn]; simpa using Heap.get?_push_size _ rfl) (fun b hb => ?_) (F.keeps fun _ _ e => Heap.get?_push_of_some _ e) (fun p hp => ⟨Heap.get?_push_of_some _ (N p hp).1, (N p hp).2⟩) (Nat.ne_of_lt F.ns.lt) (next_is_new F) (fun p hp => Nat.ne_of_lt (Heap.lt_size (N p hp).1)) (fun i v c hv => .inl ⟨_, _, rfl, hx⟩) (.inl ⟨x, px, rfl⟩)
    (fun i v ys c oI C oC D m₂ h tk E' hv _ _ hP hn hb F' N' o3 ne => ?_) hP ?_
  · have st' : h.get? s.heap.objs.size = some _ := st
    rw [e] at st'; cases st'
    exact e'
  · rw [List.mem_singleton.mp hb]
    show s.heap.objs.size < (s.heap.push _).objs.size
    rw [Heap.size_push]; exact Nat.lt_succ_self _
  · obtain ⟨hi, t, rfl⟩ := hv
    exact turn i t ys c _ oI C oC D m₂ h tk E' hi hP hn hb F' N' o3 ne
  · intro D C h tk m' ys c F' N' o1 hn hC₀ hCL hCD offC hP'
    refine ⟨m', hn, fun h'' hs'' => done D ys c h'' tk hP' (F'.change hs'' hCL hC₀) (fun p hp => ?_) o1⟩
    exact ⟨hs''.extBut _ _ ((List.forall_mem_cons (p := fun q => q.1 ≠ C)).mpr ⟨Ne.symm hCD, offC⟩ p hp) (N' p hp).1, (N' p hp).2⟩
end
theorem cend {h₀ : Heap} {L : Addr} {m : Str → Option Value} {s₁ : Shared} {I C D : Addr} {oI oC oD : Obj} {J : Led → Prop} {h' : Heap} {tk : Nat} {all : Led} (news' : Led) (F : Fr h₀ L h' m) (N : News h₀ L h' all)
    (hsub : ∀ p ∈ (I, oI) :: (C, oC) :: (D, oD) :: news', p ∈ all) (hoff : ∀ p ∈ news', p.1 ≠ I ∧ p.1 ≠ C ∧ p.1 ≠ D) (hJ : J news') : CEnd h₀ L m s₁ I oI C oC D oD J { s₁ with heap := h', toks := tk } :=
  .mk h' tk news' all F N hsub hoff hJ
theorem news_one {h₀ h : Heap} {L : Addr} {l : Led} {a : Addr} {o o' : Obj} (N : News h₀ L h l) (h1 : (a, o) ∈ l) (h2 : (a, o') ∈ l) : o = o' := by
  have e1 := (N _ h1).1
  have e2 := (N _ h2).1
  dsimp only at e1 e2
  rw [e1] at e2; exact Option.some.inj e2
theorem reg_p086_0 : True := by
  k_with "eval ListComp" => (k_here; k_dflt (refine ListComp_G (by with_unfolding_all rfl) (by rfl) (by decide) ?_); k_whole)
  trivial

/-! IpHeader -/
abbrev hEnt (w : World) (n : Str) (t : TC) (v : Value) : DictEntry := ⟨PyData.keyHash w.params n, .str n t, v⟩
noncomputable def hdrEs (w : World) (c : Nat → TC) (v0 v1 v2 v3 v4 v5 v6 v7 v8 v9 : Value) : List DictEntry :=
  [hEnt w "source" (c 0) v0, hEnt w "target" (c 1) v1, hEnt w "protocol" (c 2) v2, hEnt w "ident" (c 3) v3, hEnt w "ttl" (c 4) v4, hEnt w "tos" (c 5) v5, hEnt w "dont" (c 6) v6, hEnt w "more" (c 7) v7, hEnt w "offset" (c 8) v8, hEnt w "options" (c 9) v9]
noncomputable def tks (l : List TC) : Nat → TC := fun i => l.getD i 0
theorem reg_p08_0 : True := by
  k_with "k_all" => first
  | exact fun p hp => Nat.ne_of_lt ((by assumption : ∀ p ∈ _, p.1 < _) p hp)
  | exact fun p hp => Nat.ne_of_lt (kst_ltOf (by assumption) p hp)
  trivial
theorem hdr_new_c (w : World) (v0 v1 v2 v3 v4 v5 v6 v7 v8 v9 : Value) (news : Led) :
   Con w (.ref 183) [v0, v1, v2, v3, v4, v5, v6, v7, v8, v9] 3 news (fun r N => ∃ x dx c, r = .ref x ∧ N = (x, instObj 183 dx) :: (dx, dictOf (hdrEs w c v0 v1 v2 v3 v4 v5 v6 v7 v8 v9) 10) :: news ∧ dx < x ∧ ∀ p ∈ news, p.1 < dx) := by
  unfold Con
  k_fill
  intro dp un gd cn cs a ccd cl outer A₀ base h₀ L m s Q E p loose mean mg mb B F X N T hk hd hu hret
  k_dflt (refine' call_cls ?k1 ?k2 ?k3 ?k4 ?k5 ?k6 ?_; (case k1 => k_asm); (case k2 => k_asm); (case k3 => k_asm); (case k4 => k_is); (case k5 => k_is); (case k6 => k_is); k_whole; intro x' d' h' F' N' l1 l2; k_lt2 l2)
  k_dflt (refine' code_def ?k1 ?k2 ?k3 ?k4 ?k5 ?kA ?kF ?kK ?k6 ?k7 ?k8 ?k9 ?kB ?_ ?c2 ?c3 ?c4 ?c5; (case kA => exact rfl); (case kF => exact rfl); (case kK => assumption); (case k1 => k_asm); (case k2 => k_asm); (case k3 => k_asm); (case k4 => k_asm); (case k5 => k_asm); (case k6 => k_is); (case k7 => k_is); (case k8 => ktr_room); (case k9 => first | exact BindsTo.of_eq rfl | exact binds_K (by k_in) rfl (by k_is) rfl rfl rfl); (case c5 => decide); (case kB => exact locs rfl); (case c2 => exact rfl); (case c3 => exact rfl); (case c4 => exact rfl); k_whole; intro g' L' h' FG' F' N' B' X' T'; (try dsimp only); (try k_fold))
  k_steps
  exact hret _ _ _ _ ⟨_, _, tks [_, _, _, _, _, _, _, _, _, _], rfl, rfl, l2, l1⟩ (by k_asm) (by k_asm)
theorem hdr_new_c_k (w : World) (v0 v1 v2 v3 v4 v5 v6 v7 v8 v9 : Value) (news : Led)  :
   Kon w (.ref 183) [v0, v1, v2, v3, v4, v5, v6, v7, v8, v9] 3 news (fun K9 => ∀ x dx c, (dx < x) → (∀ p ∈ news, p.1 < dx) → K9 (.ref x) ((x, instObj 183 dx) :: (dx, dictOf (hdrEs w c v0 v1 v2 v3 v4 v5 v6 v7 v8 v9) 10) :: news))  :=
  Con.kon (hdr_new_c w v0 v1 v2 v3 v4 v5 v6 v7 v8 v9 news) (by
    rintro K9 g9 r9 N9 ⟨v0, v1, v2, rfl, rfl, v3, v4⟩
    exact g9 v0 v1 v2 v3 v4)
theorem reg_p08_1 : True := by
  k_with "call ref" => (k_here; (with_reducible show wpAny _ _ (call (Value.ref 183) _) _ _ _); k_dflt (refine' Kon.go ?_ ?_ ?_ ?_ ?_ ?_ ?_ ?_ ?_ ?_; walk_at "side 0"; (any_goals ((with_reducible show Kon _ _ _ _ _ _); exact (hdr_new_c_k _ _ _ _ _ _ _ _ _ _ _ _))); walk_at "side 9"); intro _ _ _ _ _ _ l2' l1' _; (try k_lt l1'); (try k_lt2 l2'))
  trivial
structure Hdr where
  source : Int
  target : Int
  protocol : Int
  ident : Int
  ttl : Int
  tos : Int
  dont : Bool
  more : Bool
  offset : Int
  options : List Int
noncomputable def hdrV (w : World) (c u : Nat → TC) (b : Array UInt8) (h : Hdr) : List DictEntry :=
  hdrEs w c (.int h.source (u 0)) (.int h.target (u 1)) (.int h.protocol (u 2)) (.int h.ident (u 3)) (.int h.ttl (u 4)) (.int h.tos (u 5)) (.bool h.dont) (.bool h.more) (.int h.offset (u 6)) (.bytes b (u 7))
noncomputable def hdr_size_c_S (z : Fra × World × Addr × Addr × (Nat → TC) × (Nat → TC) × Array UInt8 × Hdr × Led) : Prop :=
  (fun (F9 : Fra) (w : World) (x : Addr) (dx : Addr) (c : Nat → TC) (u : Nat → TC) (b : Array UInt8) (h : Hdr) (news : Led) => ∀ (hx : (x, instObj 183 dx) ∈ news), ∀ (hd : (dx, dictOf (hdrV w c u b h) 10) ∈ news), ∀ (hb : BI b = h.options), ∀ (hl : h.options.length ≤ 100000), BodK w 152 [.ref x] 3 news (fun r N => N = news ∧ ∃ t, r = .int (20 + h.options.length) t) F9) (z.1) (z.2.1) (z.2.2.1) (z.2.2.2.1) (z.2.2.2.2.1) (z.2.2.2.2.2.1) (z.2.2.2.2.2.2.1) (z.2.2.2.2.2.2.2.1) (z.2.2.2.2.2.2.2.2)
@[irreducible] noncomputable def hdr_size_c_z : Fra × World × Addr × Addr × (Nat → TC) × (Nat → TC) × Array UInt8 × Hdr × Led := wit (fra0, wrl0, 0, 0, fun _ => 0, fun _ => 0, #[], ⟨0, 0, 0, 0, 0, 0, false, false, 0, []⟩, []) hdr_size_c_S
namespace hdr_size_c_
@[irreducible] noncomputable def F9 : Fra := hdr_size_c_z.1
@[irreducible] noncomputable def w : World := hdr_size_c_z.2.1
@[irreducible] noncomputable def x : Addr := hdr_size_c_z.2.2.1
@[irreducible] noncomputable def dx : Addr := hdr_size_c_z.2.2.2.1
@[irreducible] noncomputable def c : Nat → TC := hdr_size_c_z.2.2.2.2.1
@[irreducible] noncomputable def u : Nat → TC := hdr_size_c_z.2.2.2.2.2.1
@[irreducible] noncomputable def b : Array UInt8 := hdr_size_c_z.2.2.2.2.2.2.1
@[irreducible] noncomputable def h : Hdr := hdr_size_c_z.2.2.2.2.2.2.2.1
@[irreducible] noncomputable def news : Led := hdr_size_c_z.2.2.2.2.2.2.2.2
theorem run : ∀ (hx : (x, instObj 183 dx) ∈ news), ∀ (hd : (dx, dictOf (hdrV w c u b h) 10) ∈ news), ∀ (hb : BI b = h.options), ∀ (hl : h.options.length ≤ 100000), BodK w 152 [.ref x] 3 news (fun r N => N = news ∧ ∃ t, r = .int (20 + h.options.length) t) F9 := by
  intro hx hd hb hl
  refine' BodK.enter ?ho ?hb ?_; (case ho => k_is); (case hb => first | (dsimp only [List.map, List.zip, List.zipWith]; done) | (dsimp only [List.map, List.zip, List.zipWith]; exact rfl))
  intro B' F' X' N' T' hd hu hPE hnx hret
  k_steps
  ((try with_reducible refine hnx _ ?_); exact hret _ _ _ _ ⟨rfl, _, rfl⟩ (by k_asm) (by first | k_asm | exact news_subL (by assumption) (by k_extra "sub") | exact news_sub (by assumption) (by intro p hp; (try simp only [List.mem_cons, List.mem_append] at hp ⊢); grind)))
end hdr_size_c_
theorem hdr_size_c (w : World) (x dx : Addr) (c u : Nat → TC) (b : Array UInt8) (h : Hdr) (news : Led) (hx : (x, instObj 183 dx) ∈ news) (hd : (dx, dictOf (hdrV w c u b h) 10) ∈ news) (hb : BI b = h.options) (hl : h.options.length ≤ 100000)  : Con w (.ref 152) [.ref x] 3 news (fun r N => N = news ∧ ∃ t, r = .int (20 + h.options.length) t) := by
  refine' BodK.con ?ho ?hcd ?hb ?hq ?hloc ?hco ?hgen ?hk ?hcell ?hD (fun F9 => @wit_all _ (fra0, wrl0, 0, 0, fun _ => 0, fun _ => 0, #[], ⟨0, 0, 0, 0, 0, 0, false, false, 0, []⟩, []) hdr_size_c_S (by with_unfolding_all exact hdr_size_c_.run) (F9, w, x, dx, c, u, b, h, news) hx hd hb hl); (case ho => k_is); (case hcd => k_is); (case hb => first | (dsimp only [List.map, List.zip, List.zipWith]; done) | (dsimp only [List.map, List.zip, List.zipWith]; exact rfl)); (case hq => first | exact fun _ _ => BindsTo.of_eq rfl | (intro s7 X7; exact binds_K X7 rfl (by k_is) rfl rfl rfl)); (case hloc => exact locs rfl); (case hco => exact rfl); (case hgen => exact rfl); (case hk => exact rfl); (case hcell => decide); (case hD => decide)

noncomputable def hdr_part_c_S (z : Fra × World × Addr × Addr × (Nat → TC) × (Nat → TC) × Array UInt8 × Hdr × Bool × Int × TC × TC × Array UInt8 × List Int × Led) : Prop :=
  (fun (F9 : Fra) (w : World) (x : Addr) (dx : Addr) (c : Nat → TC) (u : Nat → TC) (b : Array UInt8) (h : Hdr) (mo : Bool) (off : Int) (t8 : TC) (t9 : TC) (b' : Array UInt8) (ks' : List Int) (news : Led) => ∀ (hx : (x, instObj 183 dx) ∈ news), ∀ (hd : (dx, dictOf (hdrV w c u b h) 10) ∈ news), ∀ (hb' : BI b' = ks'), BodK w 173 [.ref x, .bool mo, .int off t8, .bytes b' t9] 5 news (fun r N => ∃ x dx c u, r = .ref x ∧ N = (x, instObj 183 dx) :: (dx, dictOf (hdrV w c u b' { h with more := mo, offset := off, options := ks' }) 10) :: news ∧ dx < x ∧ ∀ p ∈ news, p.1 < dx) F9) (z.1) (z.2.1) (z.2.2.1) (z.2.2.2.1) (z.2.2.2.2.1) (z.2.2.2.2.2.1) (z.2.2.2.2.2.2.1) (z.2.2.2.2.2.2.2.1) (z.2.2.2.2.2.2.2.2.1) (z.2.2.2.2.2.2.2.2.2.1) (z.2.2.2.2.2.2.2.2.2.2.1) (z.2.2.2.2.2.2.2.2.2.2.2.1) (z.2.2.2.2.2.2.2.2.2.2.2.2.1) (z.2.2.2.2.2.2.2.2.2.2.2.2.2.1) (z.2.2.2.2.2.2.2.2.2.2.2.2.2.2)
@[irreducible] noncomputable def hdr_part_c_z : Fra × World × Addr × Addr × (Nat → TC) × (Nat → TC) × Array UInt8 × Hdr × Bool × Int × TC × TC × Array UInt8 × List Int × Led := wit (fra0, wrl0, 0, 0, fun _ => 0, fun _ => 0, #[], ⟨0, 0, 0, 0, 0, 0, false, false, 0, []⟩, false, 0, 0, 0, #[], [], []) hdr_part_c_S
namespace hdr_part_c_
@[irreducible] noncomputable def F9 : Fra := hdr_part_c_z.1
@[irreducible] noncomputable def w : World := hdr_part_c_z.2.1
@[irreducible] noncomputable def x : Addr := hdr_part_c_z.2.2.1
@[irreducible] noncomputable def dx : Addr := hdr_part_c_z.2.2.2.1
@[irreducible] noncomputable def c : Nat → TC := hdr_part_c_z.2.2.2.2.1
@[irreducible] noncomputable def u : Nat → TC := hdr_part_c_z.2.2.2.2.2.1
@[irreducible] noncomputable def b : Array UInt8 := hdr_part_c_z.2.2.2.2.2.2.1
@[irreducible] noncomputable def h : Hdr := hdr_part_c_z.2.2.2.2.2.2.2.1
@[irreducible] noncomputable def mo : Bool := hdr_part_c_z.2.2.2.2.2.2.2.2.1
@[irreducible] noncomputable def off : Int := hdr_part_c_z.2.2.2.2.2.2.2.2.2.1
@[irreducible] noncomputable def t8 : TC := hdr_part_c_z.2.2.2.2.2.2.2.2.2.2.1
@[irreducible] noncomputable def t9 : TC := hdr_part_c_z.2.2.2.2.2.2.2.2.2.2.2.1
@[irreducible] noncomputable def b' : Array UInt8 := hdr_part_c_z.2.2.2.2.2.2.2.2.2.2.2.2.1
@[irreducible] noncomputable def ks' : List Int := hdr_part_c_z.2.2.2.2.2.2.2.2.2.2.2.2.2.1
@[irreducible] noncomputable def news : Led := hdr_part_c_z.2.2.2.2.2.2.2.2.2.2.2.2.2.2
theorem run : ∀ (hx : (x, instObj 183 dx) ∈ news), ∀ (hd : (dx, dictOf (hdrV w c u b h) 10) ∈ news), ∀ (hb' : BI b' = ks'), BodK w 173 [.ref x, .bool mo, .int off t8, .bytes b' t9] 5 news (fun r N => ∃ x dx c u, r = .ref x ∧ N = (x, instObj 183 dx) :: (dx, dictOf (hdrV w c u b' { h with more := mo, offset := off, options := ks' }) 10) :: news ∧ dx < x ∧ ∀ p ∈ news, p.1 < dx) F9 := by
  intro hx hd hb'
  refine' BodK.enter ?ho ?hb ?_; (case ho => k_is); (case hb => first | (dsimp only [List.map, List.zip, List.zipWith]; done) | (dsimp only [List.map, List.zip, List.zipWith]; exact rfl))
  intro B' F' X' N' T' hd hu hPE hnx hret
  k_steps
  ((try with_reducible refine hnx _ ?_); exact hret _ _ _ _ ⟨_, _, _, tks [_, _, _, _, _, _, _, _], rfl, rfl, by assumption, by assumption⟩ (by k_asm) (by k_asm))
end hdr_part_c_
theorem hdr_part_c (w : World) (x dx : Addr) (c u : Nat → TC) (b : Array UInt8) (h : Hdr) (mo : Bool) (off : Int) (t8 t9 : TC) (b' : Array UInt8) (ks' : List Int) (news : Led) (hx : (x, instObj 183 dx) ∈ news) (hd : (dx, dictOf (hdrV w c u b h) 10) ∈ news) (hb' : BI b' = ks')  : Con w (.ref 173) [.ref x, .bool mo, .int off t8, .bytes b' t9] 5 news (fun r N => ∃ x dx c u, r = .ref x ∧ N = (x, instObj 183 dx) :: (dx, dictOf (hdrV w c u b' { h with more := mo, offset := off, options := ks' }) 10) :: news ∧ dx < x ∧ ∀ p ∈ news, p.1 < dx) := by
  refine' BodK.con ?ho ?hcd ?hb ?hq ?hloc ?hco ?hgen ?hk ?hcell ?hD (fun F9 => @wit_all _ (fra0, wrl0, 0, 0, fun _ => 0, fun _ => 0, #[], ⟨0, 0, 0, 0, 0, 0, false, false, 0, []⟩, false, 0, 0, 0, #[], [], []) hdr_part_c_S (by with_unfolding_all exact hdr_part_c_.run) (F9, w, x, dx, c, u, b, h, mo, off, t8, t9, b', ks', news) hx hd hb'); (case ho => k_is); (case hcd => k_is); (case hb => first | (dsimp only [List.map, List.zip, List.zipWith]; done) | (dsimp only [List.map, List.zip, List.zipWith]; exact rfl)); (case hq => first | exact fun _ _ => BindsTo.of_eq rfl | (intro s7 X7; exact binds_K X7 rfl (by k_is) rfl rfl rfl)); (case hloc => exact locs rfl); (case hco => exact rfl); (case hgen => exact rfl); (case hk => exact rfl); (case hcell => decide); (case hD => decide)

theorem hdr_size_c_k (w : World) (x dx : Addr) (c u : Nat → TC) (b : Array UInt8) (h : Hdr) (news : Led) (hx : (x, instObj 183 dx) ∈ news) (hd : (dx, dictOf (hdrV w c u b h) 10) ∈ news) (hb : BI b = h.options) (hl : h.options.length ≤ 100000)  :
   Kon w (.ref 152) [.ref x] 3 news (fun K9 => ∀ t, K9 (.int (20 + h.options.length) t) (news))  :=
  Con.kon (hdr_size_c w x dx c u b h news hx hd hb hl) (by
    rintro K9 g9 r9 N9 ⟨rfl, v0, rfl⟩
    exact g9 v0)
theorem hdr_part_c_k (w : World) (x dx : Addr) (c u : Nat → TC) (b : Array UInt8) (h : Hdr) (mo : Bool) (off : Int) (t8 t9 : TC) (b' : Array UInt8) (ks' : List Int) (news : Led) (hx : (x, instObj 183 dx) ∈ news) (hd : (dx, dictOf (hdrV w c u b h) 10) ∈ news) (hb' : BI b' = ks')  :
   Kon w (.ref 173) [.ref x, .bool mo, .int off t8, .bytes b' t9] 5 news (fun K9 => ∀ x dx c u, (dx < x) → (∀ p ∈ news, p.1 < dx) → K9 (.ref x) ((x, instObj 183 dx) :: (dx, dictOf (hdrV w c u b' { h with more := mo, offset := off, options := ks' }) 10) :: news))  :=
  Con.kon (hdr_part_c w x dx c u b h mo off t8 t9 b' ks' news hx hd hb') (by
    rintro K9 g9 r9 N9 ⟨v0, v1, v2, v3, rfl, rfl, v4, v5⟩
    exact g9 v0 v1 v2 v3 v4 v5)
theorem reg_p08_2 : True := by
  k_with "call ref" => (k_here; (with_reducible show wpAny _ _ (call (Value.ref 152) _) _ _ _); k_dflt (refine' Kon.go ?_ ?_ ?_ ?_ ?_ ?_ ?_ ?_ ?_ ?_; walk_at "side 0"; (any_goals ((with_reducible show Kon _ _ _ _ _ _); exact (hdr_size_c_k _ _ _ _ _ _ _ _ (by k_mem) (by k_mem) (by assumption) (by lia)))); walk_at "side 9"); intro _ _ _ _ _)
  k_with "call ref" => (k_here; (with_reducible show wpAny _ _ (call (Value.ref 173) _) _ _ _); k_dflt (refine' Kon.go ?_ ?_ ?_ ?_ ?_ ?_ ?_ ?_ ?_ ?_; walk_at "side 0"; (any_goals ((with_reducible show Kon _ _ _ _ _ _); exact (hdr_part_c_k _ _ _ _ _ _ _ _ _ _ _ _ _ _ (by k_mem) (by k_mem) (by assumption)))); walk_at "side 9"); intro _ _ _ _ _ _ _ l2' l1' _; (try k_lt l1'); (try k_lt2 l2'))
  trivial

/-! check_fields, check_size, flags_of, pack_ip -/
noncomputable def is_within_c_S (z : Fra × World × Int × Int × TC × TC × Led) : Prop :=
  (fun (F9 : Fra) (w : World) (n : Int) (bits : Int) (t1 : TC) (t2 : TC) (news : Led) => ∀ (hb0 : 0 ≤ bits), ∀ (hb1 : bits ≤ 64), ∀ (h0 : 0 ≤ n), ∀ (h1 : n < 2 ^ bits.toNat), BodK w 194 [.int n t1, .int bits t2] 1 news (fun r N => N = news ∧ r = .bool true) F9) (z.1) (z.2.1) (z.2.2.1) (z.2.2.2.1) (z.2.2.2.2.1) (z.2.2.2.2.2.1) (z.2.2.2.2.2.2)
@[irreducible] noncomputable def is_within_c_z : Fra × World × Int × Int × TC × TC × Led := wit (fra0, wrl0, 0, 0, 0, 0, []) is_within_c_S
namespace is_within_c_
@[irreducible] noncomputable def F9 : Fra := is_within_c_z.1
@[irreducible] noncomputable def w : World := is_within_c_z.2.1
@[irreducible] noncomputable def n : Int := is_within_c_z.2.2.1
@[irreducible] noncomputable def bits : Int := is_within_c_z.2.2.2.1
@[irreducible] noncomputable def t1 : TC := is_within_c_z.2.2.2.2.1
@[irreducible] noncomputable def t2 : TC := is_within_c_z.2.2.2.2.2.1
@[irreducible] noncomputable def news : Led := is_within_c_z.2.2.2.2.2.2
theorem run : ∀ (hb0 : 0 ≤ bits), ∀ (hb1 : bits ≤ 64), ∀ (h0 : 0 ≤ n), ∀ (h1 : n < 2 ^ bits.toNat), BodK w 194 [.int n t1, .int bits t2] 1 news (fun r N => N = news ∧ r = .bool true) F9 := by
  intro hb0 hb1 h0 h1
  refine' BodK.enter ?ho ?hb ?_; (case ho => k_is); (case hb => first | (dsimp only [List.map, List.zip, List.zipWith]; done) | (dsimp only [List.map, List.zip, List.zipWith]; exact rfl))
  intro B' F' X' N' T' hd hu hPE hnx hret
  k_steps
  ((try with_reducible refine hnx _ ?_); exact hret _ _ _ _ ⟨rfl, by rw [decide_eq_true h1]⟩ (by k_asm) (by first | k_asm | exact news_subL (by assumption) (by k_extra "sub") | exact news_sub (by assumption) (by intro p hp; (try simp only [List.mem_cons, List.mem_append] at hp ⊢); grind)))
end is_within_c_
theorem is_within_c (w : World) (n bits : Int) (t1 t2 : TC) (news : Led) (hb0 : 0 ≤ bits) (hb1 : bits ≤ 64) (h0 : 0 ≤ n) (h1 : n < 2 ^ bits.toNat)  : Con w (.ref 194) [.int n t1, .int bits t2] 1 news (fun r N => N = news ∧ r = .bool true) := by
  refine' BodK.con ?ho ?hcd ?hb ?hq ?hloc ?hco ?hgen ?hk ?hcell ?hD (fun F9 => @wit_all _ (fra0, wrl0, 0, 0, 0, 0, []) is_within_c_S (by with_unfolding_all exact is_within_c_.run) (F9, w, n, bits, t1, t2, news) hb0 hb1 h0 h1); (case ho => k_is); (case hcd => k_is); (case hb => first | (dsimp only [List.map, List.zip, List.zipWith]; done) | (dsimp only [List.map, List.zip, List.zipWith]; exact rfl)); (case hq => first | exact fun _ _ => BindsTo.of_eq rfl | (intro s7 X7; exact binds_K X7 rfl (by k_is) rfl rfl rfl)); (case hloc => exact locs rfl); (case hco => exact rfl); (case hgen => exact rfl); (case hk => exact rfl); (case hcell => decide); (case hD => decide)

theorem is_within_c_k (w : World) (n bits : Int) (t1 t2 : TC) (news : Led) (hb0 : 0 ≤ bits) (hb1 : bits ≤ 64) (h0 : 0 ≤ n) (h1 : n < 2 ^ bits.toNat)  :
   Kon w (.ref 194) [.int n t1, .int bits t2] 1 news (fun K9 =>  K9 (.bool true) (news))  :=
  Con.kon (is_within_c w n bits t1 t2 news hb0 hb1 h0 h1) (by
    rintro K9 g9 r9 N9 ⟨rfl, rfl⟩
    exact g9)
theorem reg_p09_0 : True := by
  k_with "call ref" => (k_here; (with_reducible show wpAny _ _ (call (Value.ref 194) _) _ _ _); k_dflt (refine' Kon.go ?_ ?_ ?_ ?_ ?_ ?_ ?_ ?_ ?_ ?_; walk_at "side 0"; (any_goals ((with_reducible show Kon _ _ _ _ _ _); exact (is_within_c_k _ _ _ _ _ _ (by lia) (by lia) (by lia) (by first | lia | (simp only [Int.reduceToNat, Int.reducePow]; lia))))); walk_at "side 9"); intro _ _ _ _)
  trivial
structure Hdr.Ok (h : Hdr) : Prop where
  s0 : 0 ≤ h.source
  s1 : h.source < 4294967296
  t0 : 0 ≤ h.target
  t1 : h.target < 4294967296
  p0 : 0 ≤ h.protocol
  p1 : h.protocol < 256
  i0 : 0 ≤ h.ident
  i1 : h.ident < 65536
  l0 : 0 ≤ h.ttl
  l1 : h.ttl < 256
  c0 : 0 ≤ h.tos
  c1 : h.tos < 256
  o0 : 0 ≤ h.offset
  o1 : h.offset < 65536
  o8 : h.offset % 8 = 0
  n0 : h.options.length % 4 = 0
  n1 : h.options.length ≤ 40
noncomputable def check_fields_c_S (z : Fra × World × Addr × Addr × (Nat → TC) × (Nat → TC) × Array UInt8 × Hdr × Led) : Prop :=
  (fun (F9 : Fra) (w : World) (x : Addr) (dx : Addr) (c : Nat → TC) (u : Nat → TC) (b : Array UInt8) (h : Hdr) (news : Led) => ∀ (hx : (x, instObj 183 dx) ∈ news), ∀ (hd : (dx, dictOf (hdrV w c u b h) 10) ∈ news), ∀ (H : h.Ok), BodK w 201 [.ref x] 3 news (fun r N => N = news ∧ r = .none) F9) (z.1) (z.2.1) (z.2.2.1) (z.2.2.2.1) (z.2.2.2.2.1) (z.2.2.2.2.2.1) (z.2.2.2.2.2.2.1) (z.2.2.2.2.2.2.2.1) (z.2.2.2.2.2.2.2.2)
@[irreducible] noncomputable def check_fields_c_z : Fra × World × Addr × Addr × (Nat → TC) × (Nat → TC) × Array UInt8 × Hdr × Led := wit (fra0, wrl0, 0, 0, fun _ => 0, fun _ => 0, #[], ⟨0, 0, 0, 0, 0, 0, false, false, 0, []⟩, []) check_fields_c_S
namespace check_fields_c_
@[irreducible] noncomputable def F9 : Fra := check_fields_c_z.1
@[irreducible] noncomputable def w : World := check_fields_c_z.2.1
@[irreducible] noncomputable def x : Addr := check_fields_c_z.2.2.1
@[irreducible] noncomputable def dx : Addr := check_fields_c_z.2.2.2.1
@[irreducible] noncomputable def c : Nat → TC := check_fields_c_z.2.2.2.2.1
@[irreducible] noncomputable def u : Nat → TC := check_fields_c_z.2.2.2.2.2.1
@[irreducible] noncomputable def b : Array UInt8 := check_fields_c_z.2.2.2.2.2.2.1
@[irreducible] noncomputable def h : Hdr := check_fields_c_z.2.2.2.2.2.2.2.1
@[irreducible] noncomputable def news : Led := check_fields_c_z.2.2.2.2.2.2.2.2
theorem run : ∀ (hx : (x, instObj 183 dx) ∈ news), ∀ (hd : (dx, dictOf (hdrV w c u b h) 10) ∈ news), ∀ (H : h.Ok), BodK w 201 [.ref x] 3 news (fun r N => N = news ∧ r = .none) F9 := by
  intro hx hd H
  obtain ⟨s0, s1, t0, t1, p0, p1, i0, i1, l0, l1, c0, c1, o0, o1, o8, n0, n1⟩ := H
  refine' BodK.enter ?ho ?hb ?_; (case ho => k_is); (case hb => first | (dsimp only [List.map, List.zip, List.zipWith]; done) | (dsimp only [List.map, List.zip, List.zipWith]; exact rfl))
  intro B' F' X' N' T' hd hu hPE hnx hret
  k_steps
  rename Fr _ _ _ _ => lF
  rename News _ _ _ _ => lN
  refine seq_turns (σ := Unit) (fun _ => _ :: news) (fun _ => []) [Str.ofString "number"] (fun _ _ => True) () rfl lF lN (.head _) (.inr rfl) rfl (fun _ hp => nomatch hp) trivial ?_ ?_
  · intro c₉ i₉ v₉ u₉ h₉ tk₉ own I hv hP hoff hlt hown F₁ N₁
    clear lF lN
    dsimp only [kstB, envOf] at F₁ N₁
    try k_fold
    rcases i₉ with _ | _ | i₉
    · obtain rfl := Option.some.inj hv
      k_steps
      exact tend (()) (by assumption) (by assumption) (by intro p hp; first | exact List.mem_append_left _ hp | (simp only [List.mem_append, List.mem_cons] at hp ⊢; grind)) (by intro p hp; first | exact List.mem_append_right _ hp | (simp only [List.mem_append, List.mem_cons] at hp ⊢; grind)) (hoff) (by first | kst_all | exact (fun _ hp => nomatch hp)) (by ksw_same) (trivial)
    · obtain rfl := Option.some.inj hv
      k_steps
      exact tend (()) (by assumption) (by assumption) (by intro p hp; first | exact List.mem_append_left _ hp | (simp only [List.mem_append, List.mem_cons] at hp ⊢; grind)) (by intro p hp; first | exact List.mem_append_right _ hp | (simp only [List.mem_append, List.mem_cons] at hp ⊢; grind)) (hoff) (by first | kst_all | exact (fun _ hp => nomatch hp)) (by ksw_same) (trivial)
    · cases hv
  · intro c₉ u₉ h₉ tk₉ hP F₁ N₁
    clear lF lN
    dsimp only [kstB, envOf] at F₁ N₁
    try k_fold
    k_steps
    rename Fr _ _ _ _ => lF
    rename News _ _ _ _ => lN
    refine seq_turns (σ := Unit) (fun _ => _ :: _ :: news) (fun _ => []) [Str.ofString "number"] (fun _ _ => True) () rfl lF lN (.head _) (.inr rfl) rfl (fun _ hp => nomatch hp) trivial ?_ ?_
    · intro c₉ i₉ v₉ u₉ h₉ tk₉ own I hv hP hoff hlt hown F₁ N₁
      clear lF lN
      dsimp only [kstB, envOf] at F₁ N₁
      try k_fold
      rcases i₉ with _ | _ | _ | i₉
      · obtain rfl := Option.some.inj hv
        k_steps
        exact tend (()) (by assumption) (by assumption) (by intro p hp; first | exact List.mem_append_left _ hp | (simp only [List.mem_append, List.mem_cons] at hp ⊢; grind)) (by intro p hp; first | exact List.mem_append_right _ hp | (simp only [List.mem_append, List.mem_cons] at hp ⊢; grind)) (hoff) (by first | kst_all | exact (fun _ hp => nomatch hp)) (by ksw_same) (trivial)
      · obtain rfl := Option.some.inj hv
        k_steps
        exact tend (()) (by assumption) (by assumption) (by intro p hp; first | exact List.mem_append_left _ hp | (simp only [List.mem_append, List.mem_cons] at hp ⊢; grind)) (by intro p hp; first | exact List.mem_append_right _ hp | (simp only [List.mem_append, List.mem_cons] at hp ⊢; grind)) (hoff) (by first | kst_all | exact (fun _ hp => nomatch hp)) (by ksw_same) (trivial)
      · obtain rfl := Option.some.inj hv
        k_steps
        exact tend (()) (by assumption) (by assumption) (by intro p hp; first | exact List.mem_append_left _ hp | (simp only [List.mem_append, List.mem_cons] at hp ⊢; grind)) (by intro p hp; first | exact List.mem_append_right _ hp | (simp only [List.mem_append, List.mem_cons] at hp ⊢; grind)) (hoff) (by first | kst_all | exact (fun _ hp => nomatch hp)) (by ksw_same) (trivial)
      · cases hv
    · intro c₉ u₉ h₉ tk₉ hP F₁ N₁
      clear lF lN
      dsimp only [kstB, envOf] at F₁ N₁
      try k_fold
      k_steps
      all_goals first
        | (exfalso; lia)
        | ((try with_reducible refine hnx _ ?_); exact hret _ _ _ _ ⟨rfl, rfl⟩ (by k_asm) (by first | k_asm | exact news_subL (by assumption) (by k_extra "sub") | exact news_sub (by assumption) (by intro p hp; (try simp only [List.mem_cons, List.mem_append] at hp ⊢); grind)))
end check_fields_c_
theorem check_fields_c (w : World) (x dx : Addr) (c u : Nat → TC) (b : Array UInt8) (h : Hdr) (news : Led) (hx : (x, instObj 183 dx) ∈ news) (hd : (dx, dictOf (hdrV w c u b h) 10) ∈ news) (H : h.Ok)  : Con w (.ref 201) [.ref x] 3 news (fun r N => N = news ∧ r = .none) := by
  refine' BodK.con ?ho ?hcd ?hb ?hq ?hloc ?hco ?hgen ?hk ?hcell ?hD (fun F9 => @wit_all _ (fra0, wrl0, 0, 0, fun _ => 0, fun _ => 0, #[], ⟨0, 0, 0, 0, 0, 0, false, false, 0, []⟩, []) check_fields_c_S (by with_unfolding_all exact check_fields_c_.run) (F9, w, x, dx, c, u, b, h, news) hx hd H); (case ho => k_is); (case hcd => k_is); (case hb => first | (dsimp only [List.map, List.zip, List.zipWith]; done) | (dsimp only [List.map, List.zip, List.zipWith]; exact rfl)); (case hq => first | exact fun _ _ => BindsTo.of_eq rfl | (intro s7 X7; exact binds_K X7 rfl (by k_is) rfl rfl rfl)); (case hloc => exact locs rfl); (case hco => exact rfl); (case hgen => exact rfl); (case hk => exact rfl); (case hcell => decide); (case hD => decide)

theorem check_fields_c_k (w : World) (x dx : Addr) (c u : Nat → TC) (b : Array UInt8) (h : Hdr) (news : Led) (hx : (x, instObj 183 dx) ∈ news) (hd : (dx, dictOf (hdrV w c u b h) 10) ∈ news) (H : h.Ok)  :
   Kon w (.ref 201) [.ref x] 3 news (fun K9 =>  K9 (.none) (news))  :=
  Con.kon (check_fields_c w x dx c u b h news hx hd H) (by
    rintro K9 g9 r9 N9 ⟨rfl, rfl⟩
    exact g9)
theorem reg_p09_1 : True := by
  k_with "call ref" => (k_here; (with_reducible show wpAny _ _ (call (Value.ref 201) _) _ _ _); k_dflt (refine' Kon.go ?_ ?_ ?_ ?_ ?_ ?_ ?_ ?_ ?_ ?_; walk_at "side 0"; (any_goals ((with_reducible show Kon _ _ _ _ _ _); exact (check_fields_c_k _ _ _ _ _ _ _ _ (by k_mem) (by k_mem) (by assumption)))); walk_at "side 9"); intro _ _ _ _)
  trivial
noncomputable def check_size_c_S (z : Fra × World × Addr × Addr × (Nat → TC) × (Nat → TC) × Array UInt8 × Hdr × Array UInt8 × TC × List Int × Led) : Prop :=
  (fun (F9 : Fra) (w : World) (x : Addr) (dx : Addr) (c : Nat → TC) (u : Nat → TC) (b : Array UInt8) (h : Hdr) (p : Array UInt8) (tp : TC) (ks : List Int) (news : Led) => ∀ (hx : (x, instObj 183 dx) ∈ news), ∀ (hd : (dx, dictOf (hdrV w c u b h) 10) ∈ news), ∀ (hb : BI b = h.options), ∀ (hp : BI p = ks), ∀ (n0 : h.options.length % 4 = 0), ∀ (n1 : h.options.length ≤ 40), ∀ (hl : ks.length ≤ 60000), BodK w 208 [.ref x, .bytes p tp] 4 news (fun r N => N = news ∧ r = .none) F9) (z.1) (z.2.1) (z.2.2.1) (z.2.2.2.1) (z.2.2.2.2.1) (z.2.2.2.2.2.1) (z.2.2.2.2.2.2.1) (z.2.2.2.2.2.2.2.1) (z.2.2.2.2.2.2.2.2.1) (z.2.2.2.2.2.2.2.2.2.1) (z.2.2.2.2.2.2.2.2.2.2.1) (z.2.2.2.2.2.2.2.2.2.2.2)
@[irreducible] noncomputable def check_size_c_z : Fra × World × Addr × Addr × (Nat → TC) × (Nat → TC) × Array UInt8 × Hdr × Array UInt8 × TC × List Int × Led := wit (fra0, wrl0, 0, 0, fun _ => 0, fun _ => 0, #[], ⟨0, 0, 0, 0, 0, 0, false, false, 0, []⟩, #[], 0, [], []) check_size_c_S
namespace check_size_c_
@[irreducible] noncomputable def F9 : Fra := check_size_c_z.1
@[irreducible] noncomputable def w : World := check_size_c_z.2.1
@[irreducible] noncomputable def x : Addr := check_size_c_z.2.2.1
@[irreducible] noncomputable def dx : Addr := check_size_c_z.2.2.2.1
@[irreducible] noncomputable def c : Nat → TC := check_size_c_z.2.2.2.2.1
@[irreducible] noncomputable def u : Nat → TC := check_size_c_z.2.2.2.2.2.1
@[irreducible] noncomputable def b : Array UInt8 := check_size_c_z.2.2.2.2.2.2.1
@[irreducible] noncomputable def h : Hdr := check_size_c_z.2.2.2.2.2.2.2.1
@[irreducible] noncomputable def p : Array UInt8 := check_size_c_z.2.2.2.2.2.2.2.2.1
@[irreducible] noncomputable def tp : TC := check_size_c_z.2.2.2.2.2.2.2.2.2.1
@[irreducible] noncomputable def ks : List Int := check_size_c_z.2.2.2.2.2.2.2.2.2.2.1
@[irreducible] noncomputable def news : Led := check_size_c_z.2.2.2.2.2.2.2.2.2.2.2
theorem run : ∀ (hx : (x, instObj 183 dx) ∈ news), ∀ (hd : (dx, dictOf (hdrV w c u b h) 10) ∈ news), ∀ (hb : BI b = h.options), ∀ (hp : BI p = ks), ∀ (n0 : h.options.length % 4 = 0), ∀ (n1 : h.options.length ≤ 40), ∀ (hl : ks.length ≤ 60000), BodK w 208 [.ref x, .bytes p tp] 4 news (fun r N => N = news ∧ r = .none) F9 := by
  intro hx hd hb hp n0 n1 hl
  refine' BodK.enter ?ho ?hb ?_; (case ho => k_is); (case hb => first | (dsimp only [List.map, List.zip, List.zipWith]; done) | (dsimp only [List.map, List.zip, List.zipWith]; exact rfl))
  intro B' F' X' N' T' hd hu hPE hnx hret
  k_steps
  all_goals first
    | (exfalso; lia)
    | ((try with_reducible refine hnx _ ?_); exact hret _ _ _ _ ⟨rfl, rfl⟩ (by k_asm) (by first | k_asm | exact news_subL (by assumption) (by k_extra "sub") | exact news_sub (by assumption) (by intro p hp; (try simp only [List.mem_cons, List.mem_append] at hp ⊢); grind)))
end check_size_c_
theorem check_size_c (w : World) (x dx : Addr) (c u : Nat → TC) (b : Array UInt8) (h : Hdr) (p : Array UInt8) (tp : TC) (ks : List Int) (news : Led) (hx : (x, instObj 183 dx) ∈ news) (hd : (dx, dictOf (hdrV w c u b h) 10) ∈ news) (hb : BI b = h.options) (hp : BI p = ks) (n0 : h.options.length % 4 = 0) (n1 : h.options.length ≤ 40) (hl : ks.length ≤ 60000)  : Con w (.ref 208) [.ref x, .bytes p tp] 4 news (fun r N => N = news ∧ r = .none) := by
  refine' BodK.con ?ho ?hcd ?hb ?hq ?hloc ?hco ?hgen ?hk ?hcell ?hD (fun F9 => @wit_all _ (fra0, wrl0, 0, 0, fun _ => 0, fun _ => 0, #[], ⟨0, 0, 0, 0, 0, 0, false, false, 0, []⟩, #[], 0, [], []) check_size_c_S (by with_unfolding_all exact check_size_c_.run) (F9, w, x, dx, c, u, b, h, p, tp, ks, news) hx hd hb hp n0 n1 hl); (case ho => k_is); (case hcd => k_is); (case hb => first | (dsimp only [List.map, List.zip, List.zipWith]; done) | (dsimp only [List.map, List.zip, List.zipWith]; exact rfl)); (case hq => first | exact fun _ _ => BindsTo.of_eq rfl | (intro s7 X7; exact binds_K X7 rfl (by k_is) rfl rfl rfl)); (case hloc => exact locs rfl); (case hco => exact rfl); (case hgen => exact rfl); (case hk => exact rfl); (case hcell => decide); (case hD => decide)

noncomputable def Hdr.flags (h : Hdr) : Int := h.offset / 8 + (if h.dont then 16384 else 0) + (if h.more then 8192 else 0)
noncomputable def flags_of_c_S (z : Fra × World × Addr × Addr × (Nat → TC) × (Nat → TC) × Array UInt8 × Hdr × Led) : Prop :=
  (fun (F9 : Fra) (w : World) (x : Addr) (dx : Addr) (c : Nat → TC) (u : Nat → TC) (b : Array UInt8) (h : Hdr) (news : Led) => ∀ (hx : (x, instObj 183 dx) ∈ news), ∀ (hd : (dx, dictOf (hdrV w c u b h) 10) ∈ news), ∀ (o0 : 0 ≤ h.offset), ∀ (o1 : h.offset < 65536), BodK w 215 [.ref x] 2 news (fun r N => N = news ∧ ∃ t, r = .int h.flags t) F9) (z.1) (z.2.1) (z.2.2.1) (z.2.2.2.1) (z.2.2.2.2.1) (z.2.2.2.2.2.1) (z.2.2.2.2.2.2.1) (z.2.2.2.2.2.2.2.1) (z.2.2.2.2.2.2.2.2)
@[irreducible] noncomputable def flags_of_c_z : Fra × World × Addr × Addr × (Nat → TC) × (Nat → TC) × Array UInt8 × Hdr × Led := wit (fra0, wrl0, 0, 0, fun _ => 0, fun _ => 0, #[], ⟨0, 0, 0, 0, 0, 0, false, false, 0, []⟩, []) flags_of_c_S
namespace flags_of_c_
@[irreducible] noncomputable def F9 : Fra := flags_of_c_z.1
@[irreducible] noncomputable def w : World := flags_of_c_z.2.1
@[irreducible] noncomputable def x : Addr := flags_of_c_z.2.2.1
@[irreducible] noncomputable def dx : Addr := flags_of_c_z.2.2.2.1
@[irreducible] noncomputable def c : Nat → TC := flags_of_c_z.2.2.2.2.1
@[irreducible] noncomputable def u : Nat → TC := flags_of_c_z.2.2.2.2.2.1
@[irreducible] noncomputable def b : Array UInt8 := flags_of_c_z.2.2.2.2.2.2.1
@[irreducible] noncomputable def h : Hdr := flags_of_c_z.2.2.2.2.2.2.2.1
@[irreducible] noncomputable def news : Led := flags_of_c_z.2.2.2.2.2.2.2.2
theorem run : ∀ (hx : (x, instObj 183 dx) ∈ news), ∀ (hd : (dx, dictOf (hdrV w c u b h) 10) ∈ news), ∀ (o0 : 0 ≤ h.offset), ∀ (o1 : h.offset < 65536), BodK w 215 [.ref x] 2 news (fun r N => N = news ∧ ∃ t, r = .int h.flags t) F9 := by
  intro hx hd o0 o1
  refine' BodK.enter ?ho ?hb ?_; (case ho => k_is); (case hb => first | (dsimp only [List.map, List.zip, List.zipWith]; done) | (dsimp only [List.map, List.zip, List.zipWith]; exact rfl))
  intro B' F' X' N' T' hd hu hPE hnx hret
  k_steps
  all_goals ((try with_reducible refine hnx _ ?_); exact hret _ _ _ _ ⟨rfl, _, congrArg (fun z => Value.int z _) (by unfold Hdr.flags; (repeat' split) <;> first | lia | simp_all)⟩ (by k_asm) (by first | k_asm | exact news_subL (by assumption) (by k_extra "sub") | exact news_sub (by assumption) (by intro p hp; (try simp only [List.mem_cons, List.mem_append] at hp ⊢); grind)))
end flags_of_c_
theorem flags_of_c (w : World) (x dx : Addr) (c u : Nat → TC) (b : Array UInt8) (h : Hdr) (news : Led) (hx : (x, instObj 183 dx) ∈ news) (hd : (dx, dictOf (hdrV w c u b h) 10) ∈ news) (o0 : 0 ≤ h.offset) (o1 : h.offset < 65536)  : Con w (.ref 215) [.ref x] 2 news (fun r N => N = news ∧ ∃ t, r = .int h.flags t) := by
  refine' BodK.con ?ho ?hcd ?hb ?hq ?hloc ?hco ?hgen ?hk ?hcell ?hD (fun F9 => @wit_all _ (fra0, wrl0, 0, 0, fun _ => 0, fun _ => 0, #[], ⟨0, 0, 0, 0, 0, 0, false, false, 0, []⟩, []) flags_of_c_S (by with_unfolding_all exact flags_of_c_.run) (F9, w, x, dx, c, u, b, h, news) hx hd o0 o1); (case ho => k_is); (case hcd => k_is); (case hb => first | (dsimp only [List.map, List.zip, List.zipWith]; done) | (dsimp only [List.map, List.zip, List.zipWith]; exact rfl)); (case hq => first | exact fun _ _ => BindsTo.of_eq rfl | (intro s7 X7; exact binds_K X7 rfl (by k_is) rfl rfl rfl)); (case hloc => exact locs rfl); (case hco => exact rfl); (case hgen => exact rfl); (case hk => exact rfl); (case hcell => decide); (case hD => decide)

theorem check_size_c_k (w : World) (x dx : Addr) (c u : Nat → TC) (b : Array UInt8) (h : Hdr) (p : Array UInt8) (tp : TC) (ks : List Int) (news : Led) (hx : (x, instObj 183 dx) ∈ news) (hd : (dx, dictOf (hdrV w c u b h) 10) ∈ news) (hb : BI b = h.options) (hp : BI p = ks) (n0 : h.options.length % 4 = 0) (n1 : h.options.length ≤ 40) (hl : ks.length ≤ 60000)  :
   Kon w (.ref 208) [.ref x, .bytes p tp] 4 news (fun K9 =>  K9 (.none) (news))  :=
  Con.kon (check_size_c w x dx c u b h p tp ks news hx hd hb hp n0 n1 hl) (by
    rintro K9 g9 r9 N9 ⟨rfl, rfl⟩
    exact g9)
theorem flags_of_c_k (w : World) (x dx : Addr) (c u : Nat → TC) (b : Array UInt8) (h : Hdr) (news : Led) (hx : (x, instObj 183 dx) ∈ news) (hd : (dx, dictOf (hdrV w c u b h) 10) ∈ news) (o0 : 0 ≤ h.offset) (o1 : h.offset < 65536)  :
   Kon w (.ref 215) [.ref x] 2 news (fun K9 => ∀ t, K9 (.int h.flags t) (news))  :=
  Con.kon (flags_of_c w x dx c u b h news hx hd o0 o1) (by
    rintro K9 g9 r9 N9 ⟨rfl, v0, rfl⟩
    exact g9 v0)
theorem reg_p09_2 : True := by
  k_with "call ref" => (k_here; (with_reducible show wpAny _ _ (call (Value.ref 208) _) _ _ _); k_dflt (refine' Kon.go ?_ ?_ ?_ ?_ ?_ ?_ ?_ ?_ ?_ ?_; walk_at "side 0"; (any_goals ((with_reducible show Kon _ _ _ _ _ _); exact (check_size_c_k _ _ _ _ _ _ _ _ _ _ _ (by k_mem) (by k_mem) (by assumption) (by assumption) (by lia) (by lia) (by lia)))); walk_at "side 9"); intro _ _ _ _)
  k_with "call ref" => (k_here; (with_reducible show wpAny _ _ (call (Value.ref 215) _) _ _ _); k_dflt (refine' Kon.go ?_ ?_ ?_ ?_ ?_ ?_ ?_ ?_ ?_ ?_; walk_at "side 0"; (any_goals ((with_reducible show Kon _ _ _ _ _ _); exact (flags_of_c_k _ _ _ _ _ _ _ _ (by k_mem) (by k_mem) (by lia) (by lia)))); walk_at "side 9"); intro _ _ _ _ _)
  trivial
noncomputable def hA (h : Hdr) (n : Int) : List Int := [64 + (20 + (h.options.length : Int)) / 4, h.tos] ++ (w16 (20 + (h.options.length : Int) + n) ++ w16 h.ident ++ w16 h.flags) ++ [h.ttl, h.protocol]
noncomputable def hZ (h : Hdr) : List Int := w32 h.source ++ w32 h.target ++ h.options
noncomputable def hck (h : Hdr) (n : Int) : Int := ck (hA h n ++ w16 0 ++ hZ h)
noncomputable def pk (h : Hdr) (ks : List Int) : List Int := hA h ks.length ++ w16 (hck h ks.length) ++ hZ h ++ ks
theorem flags_in {h : Hdr} (H : h.Ok) : 0 ≤ h.flags ∧ h.flags < 65536 := by
  have := H.o0
  have := H.o1
  unfold Hdr.flags; (repeat' split) <;> lia
noncomputable def pack_ip_c_S (z : Fra × World × Addr × Addr × (Nat → TC) × (Nat → TC) × Array UInt8 × Hdr × Array UInt8 × TC × List Int × Led) : Prop :=
  (fun (F9 : Fra) (w : World) (x : Addr) (dx : Addr) (c : Nat → TC) (u : Nat → TC) (b : Array UInt8) (h : Hdr) (p : Array UInt8) (tp : TC) (ks : List Int) (news : Led) => ∀ (hx : (x, instObj 183 dx) ∈ news), ∀ (hd : (dx, dictOf (hdrV w c u b h) 10) ∈ news), ∀ (hb : BI b = h.options), ∀ (hp : BI p = ks), ∀ (H : h.Ok), ∀ (hl : ks.length ≤ 60000), BodK w 222 [.ref x, .bytes p tp] 5 news (fun r N => N = news ∧ ∃ b t, r = .bytes b t ∧ BI b = pk h ks) F9) (z.1) (z.2.1) (z.2.2.1) (z.2.2.2.1) (z.2.2.2.2.1) (z.2.2.2.2.2.1) (z.2.2.2.2.2.2.1) (z.2.2.2.2.2.2.2.1) (z.2.2.2.2.2.2.2.2.1) (z.2.2.2.2.2.2.2.2.2.1) (z.2.2.2.2.2.2.2.2.2.2.1) (z.2.2.2.2.2.2.2.2.2.2.2)
@[irreducible] noncomputable def pack_ip_c_z : Fra × World × Addr × Addr × (Nat → TC) × (Nat → TC) × Array UInt8 × Hdr × Array UInt8 × TC × List Int × Led := wit (fra0, wrl0, 0, 0, fun _ => 0, fun _ => 0, #[], ⟨0, 0, 0, 0, 0, 0, false, false, 0, []⟩, #[], 0, [], []) pack_ip_c_S
namespace pack_ip_c_
@[irreducible] noncomputable def F9 : Fra := pack_ip_c_z.1
@[irreducible] noncomputable def w : World := pack_ip_c_z.2.1
@[irreducible] noncomputable def x : Addr := pack_ip_c_z.2.2.1
@[irreducible] noncomputable def dx : Addr := pack_ip_c_z.2.2.2.1
@[irreducible] noncomputable def c : Nat → TC := pack_ip_c_z.2.2.2.2.1
@[irreducible] noncomputable def u : Nat → TC := pack_ip_c_z.2.2.2.2.2.1
@[irreducible] noncomputable def b : Array UInt8 := pack_ip_c_z.2.2.2.2.2.2.1
@[irreducible] noncomputable def h : Hdr := pack_ip_c_z.2.2.2.2.2.2.2.1
@[irreducible] noncomputable def p : Array UInt8 := pack_ip_c_z.2.2.2.2.2.2.2.2.1
@[irreducible] noncomputable def tp : TC := pack_ip_c_z.2.2.2.2.2.2.2.2.2.1
@[irreducible] noncomputable def ks : List Int := pack_ip_c_z.2.2.2.2.2.2.2.2.2.2.1
@[irreducible] noncomputable def news : Led := pack_ip_c_z.2.2.2.2.2.2.2.2.2.2.2
theorem run : ∀ (hx : (x, instObj 183 dx) ∈ news), ∀ (hd : (dx, dictOf (hdrV w c u b h) 10) ∈ news), ∀ (hb : BI b = h.options), ∀ (hp : BI p = ks), ∀ (H : h.Ok), ∀ (hl : ks.length ≤ 60000), BodK w 222 [.ref x, .bytes p tp] 5 news (fun r N => N = news ∧ ∃ b t, r = .bytes b t ∧ BI b = pk h ks) F9 := by
  intro hx hd hb hp H hl
  have hfl := flags_in H
  have H' := H
  obtain ⟨s0, s1, t0, t1, p0, p1, i0, i1, l0, l1, c0, c1, o0, o1, o8, n0, n1⟩ := H
  have e16 := w16_len
  have e32 := w32_len
  refine' BodK.enter ?ho ?hb ?_; (case ho => k_is); (case hb => first | (dsimp only [List.map, List.zip, List.zipWith]; done) | (dsimp only [List.map, List.zip, List.zipWith]; exact rfl))
  intro B' F' X' N' T' hd hu hPE hnx hret
  k_steps
  rename (BI _ = _) => hR
  ((try with_reducible refine hnx _ ?_); exact hret _ _ _ _ ⟨rfl, _, _, rfl, hR⟩ (by k_asm) (by first | k_asm | exact news_subL (by assumption) (by k_extra "sub") | exact news_sub (by assumption) (by intro p hp; (try simp only [List.mem_cons, List.mem_append] at hp ⊢); grind)))
end pack_ip_c_
theorem pack_ip_c (w : World) (x dx : Addr) (c u : Nat → TC) (b : Array UInt8) (h : Hdr) (p : Array UInt8) (tp : TC) (ks : List Int) (news : Led) (hx : (x, instObj 183 dx) ∈ news) (hd : (dx, dictOf (hdrV w c u b h) 10) ∈ news) (hb : BI b = h.options) (hp : BI p = ks) (H : h.Ok) (hl : ks.length ≤ 60000)  : Con w (.ref 222) [.ref x, .bytes p tp] 5 news (fun r N => N = news ∧ ∃ b t, r = .bytes b t ∧ BI b = pk h ks) := by
  refine' BodK.con ?ho ?hcd ?hb ?hq ?hloc ?hco ?hgen ?hk ?hcell ?hD (fun F9 => @wit_all _ (fra0, wrl0, 0, 0, fun _ => 0, fun _ => 0, #[], ⟨0, 0, 0, 0, 0, 0, false, false, 0, []⟩, #[], 0, [], []) pack_ip_c_S (by with_unfolding_all exact pack_ip_c_.run) (F9, w, x, dx, c, u, b, h, p, tp, ks, news) hx hd hb hp H hl); (case ho => k_is); (case hcd => k_is); (case hb => first | (dsimp only [List.map, List.zip, List.zipWith]; done) | (dsimp only [List.map, List.zip, List.zipWith]; exact rfl)); (case hq => first | exact fun _ _ => BindsTo.of_eq rfl | (intro s7 X7; exact binds_K X7 rfl (by k_is) rfl rfl rfl)); (case hloc => exact locs rfl); (case hco => exact rfl); (case hgen => exact rfl); (case hk => exact rfl); (case hcell => decide); (case hD => decide)

theorem pack_ip_c_k (w : World) (x dx : Addr) (c u : Nat → TC) (b : Array UInt8) (h : Hdr) (p : Array UInt8) (tp : TC) (ks : List Int) (news : Led) (hx : (x, instObj 183 dx) ∈ news) (hd : (dx, dictOf (hdrV w c u b h) 10) ∈ news) (hb : BI b = h.options) (hp : BI p = ks) (H : h.Ok) (hl : ks.length ≤ 60000)  :
   Kon w (.ref 222) [.ref x, .bytes p tp] 5 news (fun K9 => ∀ b t, (BI b = pk h ks) → K9 (.bytes b t) (news))  :=
  Con.kon (pack_ip_c w x dx c u b h p tp ks news hx hd hb hp H hl) (by
    rintro K9 g9 r9 N9 ⟨rfl, v0, v1, rfl, v2⟩
    exact g9 v0 v1 v2)
theorem reg_p09_3 : True := by
  k_with "call ref" => (k_here; (with_reducible show wpAny _ _ (call (Value.ref 222) _) _ _ _); k_dflt (refine' Kon.go ?_ ?_ ?_ ?_ ?_ ?_ ?_ ?_ ?_ ?_; walk_at "side 0"; (any_goals ((with_reducible show Kon _ _ _ _ _ _); exact (pack_ip_c_k _ _ _ _ _ _ _ _ _ _ _ (by k_mem) (by k_mem) (by assumption) (by assumption) (by assumption) (by kba_size)))); walk_at "side 9"); intro _ _ _ _ _ _ _)
  trivial

/-! unpack_ip, lessened, lessened_octets -/
noncomputable def hsz (ks : List Int) : Nat := (ks.getD 0 0 % 16 * 4).toNat
noncomputable def hdrOf (ks : List Int) : Hdr where
  source := g16 ks 12 * 65536 + g16 ks 14
  target := g16 ks 16 * 65536 + g16 ks 18
  protocol := ks.getD 9 0
  ident := g16 ks 4
  ttl := ks.getD 8 0
  tos := ks.getD 1 0
  dont := g16 ks 6 / 16384 % 2 * 16384 != 0
  more := g16 ks 6 / 8192 % 2 * 8192 != 0
  offset := g16 ks 6 % 8192 * 8
  options := (ks.drop 20).take (hsz ks - 20)
noncomputable def ipGood (ks : List Int) : Prop := headGood ks ∧ (hsz ks : Int) ≤ g16 ks 2 ∧ g16 ks 2 ≤ ks.length ∧ ck (ks.take (hsz ks)) = 0
noncomputable def unpack_ip_c_S (z : Fra × World × Array UInt8 × TC × List Int × Led) : Prop :=
  (fun (F9 : Fra) (w : World) (b : Array UInt8) (tb : TC) (ks : List Int) (news : Led) => ∀ (hb : BI b = ks), ∀ (hl : ks.length ≤ 100000), BodKR w 236 [.bytes b tb] 8 news (fun r N => ∃ ax x dx c u b1 b2 t2, r = .ref ax ∧ N = (ax, Obj.mk (.type "tuple") none (.seq [Value.ref x, .bytes b2 t2].toArray) #[]) :: (x, instObj 183 dx) :: (dx, dictOf (hdrV w c u b1 (hdrOf ks)) 10) :: news ∧ BI b1 = (hdrOf ks).options ∧ BI b2 = (ks.drop (hsz ks)).take ((g16 ks 2).toNat - hsz ks) ∧ ipGood ks ∧ dx < x ∧ x < ax ∧ ∀ p ∈ news, p.1 < dx) 51 (¬ ipGood ks) F9) (z.1) (z.2.1) (z.2.2.1) (z.2.2.2.1) (z.2.2.2.2.1) (z.2.2.2.2.2)
@[irreducible] noncomputable def unpack_ip_c_z : Fra × World × Array UInt8 × TC × List Int × Led := wit (fra0, wrl0, #[], 0, [], []) unpack_ip_c_S
namespace unpack_ip_c_
@[irreducible] noncomputable def F9 : Fra := unpack_ip_c_z.1
@[irreducible] noncomputable def w : World := unpack_ip_c_z.2.1
@[irreducible] noncomputable def b : Array UInt8 := unpack_ip_c_z.2.2.1
@[irreducible] noncomputable def tb : TC := unpack_ip_c_z.2.2.2.1
@[irreducible] noncomputable def ks : List Int := unpack_ip_c_z.2.2.2.2.1
@[irreducible] noncomputable def news : Led := unpack_ip_c_z.2.2.2.2.2
theorem run : ∀ (hb : BI b = ks), ∀ (hl : ks.length ≤ 100000), BodKR w 236 [.bytes b tb] 8 news (fun r N => ∃ ax x dx c u b1 b2 t2, r = .ref ax ∧ N = (ax, Obj.mk (.type "tuple") none (.seq [Value.ref x, .bytes b2 t2].toArray) #[]) :: (x, instObj 183 dx) :: (dx, dictOf (hdrV w c u b1 (hdrOf ks)) 10) :: news ∧ BI b1 = (hdrOf ks).options ∧ BI b2 = (ks.drop (hsz ks)).take ((g16 ks 2).toNat - hsz ks) ∧ ipGood ks ∧ dx < x ∧ x < ax ∧ ∀ p ∈ news, p.1 < dx) 51 (¬ ipGood ks) F9 := by
  intro hb hl
  have hB := inB_of hb
  have i0 := getD_inB hB 0
  have i1 := g16_in hB 2
  have i2 := g16_in hB 6
  refine' BodKR.enter ?ho ?hb ?_; (case ho => k_is); (case hb => first | (dsimp only [List.map, List.zip, List.zipWith]; done) | (dsimp only [List.map, List.zip, List.zipWith]; exact rfl))
  intro B' F' X' N' T' hd hu hPE hnx hret hexa hexb
  k_steps
  all_goals first
    | (first | (refine' hexa _ _ _ _ ?bad ?FG ?N ?X ?ne ?sub; (case N => k_asm); (case X => assumption); (case FG => k_asm); (case ne => assumption); (case sub => (first | exact fun _ hp => hp | exact (show SubL _ _ by k_extra "sub") | (intro p hp; simp only [List.mem_cons, List.mem_append, hp, or_true, true_or]))); (case bad => rintro ⟨z1, z2, z3, z4⟩; first | contradiction | (unfold hsz at z2; lia) | (rename (ck _ ≠ 0) => zz; exact zz z4))) | (refine' hexb _ _ _ _ ?bad ?FG ?R ?U ?sub; (case R => assumption); (case FG => assumption); (case U => assumption); (case sub => (first | exact fun _ hp => hp | exact (show SubL _ _ by k_extra "sub") | (intro p hp; simp only [List.mem_cons, List.mem_append, hp, or_true, true_or]))); (case bad => rintro ⟨z1, z2, z3, z4⟩; first | contradiction | (unfold hsz at z2; lia) | (rename (ck _ ≠ 0) => zz; exact zz z4))))
    | skip
  rename (ck _ = 0) => zz
  ((try with_reducible refine hnx _ ?_); exact hret _ _ _ _ ⟨_, _, _, _, tks [_, _, _, _, _, _, _, _], _, _, _, rfl, rfl, by assumption, by assumption, ⟨by assumption, by unfold hsz; lia, by lia, zz⟩, by assumption, by (rename (_ ∧ _ ∧ AllLt _ _) => zl; exact zl.1), by assumption⟩ (by k_asm) (by k_asm))
end unpack_ip_c_
theorem unpack_ip_c (w : World) (b : Array UInt8) (tb : TC) (ks : List Int) (news : Led) (hb : BI b = ks) (hl : ks.length ≤ 100000)  : ConR w (.ref 236) [.bytes b tb] 8 news (fun r N => ∃ ax x dx c u b1 b2 t2, r = .ref ax ∧ N = (ax, Obj.mk (.type "tuple") none (.seq [Value.ref x, .bytes b2 t2].toArray) #[]) :: (x, instObj 183 dx) :: (dx, dictOf (hdrV w c u b1 (hdrOf ks)) 10) :: news ∧ BI b1 = (hdrOf ks).options ∧ BI b2 = (ks.drop (hsz ks)).take ((g16 ks 2).toNat - hsz ks) ∧ ipGood ks ∧ dx < x ∧ x < ax ∧ ∀ p ∈ news, p.1 < dx) 51 (¬ ipGood ks) := by
  refine' BodKR.con ?ho ?hcd ?hb ?hq ?hloc ?hco ?hgen ?hk ?hcell ?hD (fun F9 => @wit_all _ (fra0, wrl0, #[], 0, [], []) unpack_ip_c_S (by with_unfolding_all exact unpack_ip_c_.run) (F9, w, b, tb, ks, news) hb hl); (case ho => k_is); (case hcd => k_is); (case hb => first | (dsimp only [List.map, List.zip, List.zipWith]; done) | (dsimp only [List.map, List.zip, List.zipWith]; exact rfl)); (case hq => first | exact fun _ _ => BindsTo.of_eq rfl | (intro s7 X7; exact binds_K X7 rfl (by k_is) rfl rfl rfl)); (case hloc => exact locs rfl); (case hco => exact rfl); (case hgen => exact rfl); (case hk => exact rfl); (case hcell => decide); (case hD => decide)

theorem unpack_ip_c_k (w : World) (b : Array UInt8) (tb : TC) (ks : List Int) (news : Led) (hb : BI b = ks) (hl : ks.length ≤ 100000)  :
   KonR w (.ref 236) [.bytes b tb] 8 news (fun K9 => ∀ ax x dx c u b1 b2 t2, (BI b1 = (hdrOf ks).options) → (BI b2 = (ks.drop (hsz ks)).take ((g16 ks 2).toNat - hsz ks)) → (ipGood ks) → (dx < x) → (x < ax) → (∀ p ∈ news, p.1 < dx) → K9 (.ref ax) ((ax, Obj.mk (.type "tuple") none (.seq [Value.ref x, .bytes b2 t2].toArray) #[]) :: (x, instObj 183 dx) :: (dx, dictOf (hdrV w c u b1 (hdrOf ks)) 10) :: news)) 51 (¬ ipGood ks) :=
  ConR.kon (unpack_ip_c w b tb ks news hb hl) (by
    rintro K9 g9 r9 N9 ⟨v0, v1, v2, v3, v4, v5, v6, v7, rfl, rfl, v8, v9, v10, v11, v12, v13⟩
    exact g9 v0 v1 v2 v3 v4 v5 v6 v7 v8 v9 v10 v11 v12 v13)
theorem reg_p10_0 : True := by
  k_with "call ref" => (k_here; (with_reducible show wpAny _ _ (call (Value.ref 236) _) _ _ _); k_dflt (refine' KonR.go ?_ ?_ ?_ ?_ ?_ ?_ ?_ ?_ ?_ ?_ ?_; walk_at "side 0"; (any_goals ((with_reducible show KonR _ _ _ _ _ _ _ _); exact (unpack_ip_c_k _ _ _ _ _ (by assumption) (by kba_size)))); walk_at "side 9"; intro _ _ _ _ _ _ _ _ _ _ _ _ _ _ l3' _ l1' _; (try k_lt l1'); (try k_lt2 l3'); rotate_left 1; intro _ _ _ _ _ _ _ _; (try dsimp only)))
  trivial
noncomputable def lessened_c_S (z : Fra × World × Addr × Addr × (Nat → TC) × (Nat → TC) × Array UInt8 × Hdr × Led) : Prop :=
  (fun (F9 : Fra) (w : World) (x : Addr) (dx : Addr) (c : Nat → TC) (u : Nat → TC) (b : Array UInt8) (h : Hdr) (news : Led) => ∀ (hx : (x, instObj 183 dx) ∈ news), ∀ (hd : (dx, dictOf (hdrV w c u b h) 10) ∈ news), ∀ (hb : BI b = h.options), BodK w 243 [.ref x] 6 news (fun r N => (h.ttl ≤ 1 ∧ r = .none ∧ N = news) ∨ (1 < h.ttl ∧ ∃ x dx c u, r = .ref x ∧ N = (x, instObj 183 dx) :: (dx, dictOf (hdrV w c u b { h with ttl := h.ttl - 1 }) 10) :: news ∧ dx < x ∧ ∀ p ∈ news, p.1 < dx)) F9) (z.1) (z.2.1) (z.2.2.1) (z.2.2.2.1) (z.2.2.2.2.1) (z.2.2.2.2.2.1) (z.2.2.2.2.2.2.1) (z.2.2.2.2.2.2.2.1) (z.2.2.2.2.2.2.2.2)
@[irreducible] noncomputable def lessened_c_z : Fra × World × Addr × Addr × (Nat → TC) × (Nat → TC) × Array UInt8 × Hdr × Led := wit (fra0, wrl0, 0, 0, fun _ => 0, fun _ => 0, #[], ⟨0, 0, 0, 0, 0, 0, false, false, 0, []⟩, []) lessened_c_S
namespace lessened_c_
@[irreducible] noncomputable def F9 : Fra := lessened_c_z.1
@[irreducible] noncomputable def w : World := lessened_c_z.2.1
@[irreducible] noncomputable def x : Addr := lessened_c_z.2.2.1
@[irreducible] noncomputable def dx : Addr := lessened_c_z.2.2.2.1
@[irreducible] noncomputable def c : Nat → TC := lessened_c_z.2.2.2.2.1
@[irreducible] noncomputable def u : Nat → TC := lessened_c_z.2.2.2.2.2.1
@[irreducible] noncomputable def b : Array UInt8 := lessened_c_z.2.2.2.2.2.2.1
@[irreducible] noncomputable def h : Hdr := lessened_c_z.2.2.2.2.2.2.2.1
@[irreducible] noncomputable def news : Led := lessened_c_z.2.2.2.2.2.2.2.2
theorem run : ∀ (hx : (x, instObj 183 dx) ∈ news), ∀ (hd : (dx, dictOf (hdrV w c u b h) 10) ∈ news), ∀ (hb : BI b = h.options), BodK w 243 [.ref x] 6 news (fun r N => (h.ttl ≤ 1 ∧ r = .none ∧ N = news) ∨ (1 < h.ttl ∧ ∃ x dx c u, r = .ref x ∧ N = (x, instObj 183 dx) :: (dx, dictOf (hdrV w c u b { h with ttl := h.ttl - 1 }) 10) :: news ∧ dx < x ∧ ∀ p ∈ news, p.1 < dx)) F9 := by
  intro hx hd hb
  refine' BodK.enter ?ho ?hb ?_; (case ho => k_is); (case hb => first | (dsimp only [List.map, List.zip, List.zipWith]; done) | (dsimp only [List.map, List.zip, List.zipWith]; exact rfl))
  intro B' F' X' N' T' hd hu hPE hnx hret
  k_steps
  · ((try with_reducible refine hnx _ ?_); exact hret _ _ _ _ (.inl ⟨by assumption, rfl, rfl⟩) (by k_asm) (by first | k_asm | exact news_subL (by assumption) (by k_extra "sub") | exact news_sub (by assumption) (by intro p hp; (try simp only [List.mem_cons, List.mem_append] at hp ⊢); grind)))
  · skip
    ((try with_reducible refine hnx _ ?_); exact hret _ _ _ _ (.inr ⟨by lia, _, _, _, tks [_, _, _, _, _, _, _, _], rfl, rfl, by assumption, by assumption⟩) (by k_asm) (by k_asm))
end lessened_c_
theorem lessened_c (w : World) (x dx : Addr) (c u : Nat → TC) (b : Array UInt8) (h : Hdr) (news : Led) (hx : (x, instObj 183 dx) ∈ news) (hd : (dx, dictOf (hdrV w c u b h) 10) ∈ news) (hb : BI b = h.options)  : Con w (.ref 243) [.ref x] 6 news (fun r N => (h.ttl ≤ 1 ∧ r = .none ∧ N = news) ∨ (1 < h.ttl ∧ ∃ x dx c u, r = .ref x ∧ N = (x, instObj 183 dx) :: (dx, dictOf (hdrV w c u b { h with ttl := h.ttl - 1 }) 10) :: news ∧ dx < x ∧ ∀ p ∈ news, p.1 < dx)) := by
  refine' BodK.con ?ho ?hcd ?hb ?hq ?hloc ?hco ?hgen ?hk ?hcell ?hD (fun F9 => @wit_all _ (fra0, wrl0, 0, 0, fun _ => 0, fun _ => 0, #[], ⟨0, 0, 0, 0, 0, 0, false, false, 0, []⟩, []) lessened_c_S (by with_unfolding_all exact lessened_c_.run) (F9, w, x, dx, c, u, b, h, news) hx hd hb); (case ho => k_is); (case hcd => k_is); (case hb => first | (dsimp only [List.map, List.zip, List.zipWith]; done) | (dsimp only [List.map, List.zip, List.zipWith]; exact rfl)); (case hq => first | exact fun _ _ => BindsTo.of_eq rfl | (intro s7 X7; exact binds_K X7 rfl (by k_is) rfl rfl rfl)); (case hloc => exact locs rfl); (case hco => exact rfl); (case hgen => exact rfl); (case hk => exact rfl); (case hcell => decide); (case hD => decide)

noncomputable def hopOct (ks : List Int) : List Int := ks.take 8 ++ w16 (g16 ks 8 - 256) ++ w16 (65535 - foldv (65535 - g16 ks 10 + (65535 - g16 ks 8) + (g16 ks 8 - 256))) ++ ks.drop 12
noncomputable def lessened_octets_c_S (z : Fra × World × Array UInt8 × TC × List Int × Led) : Prop :=
  (fun (F9 : Fra) (w : World) (b : Array UInt8) (tb : TC) (ks : List Int) (news : Led) => ∀ (hb : BI b = ks), ∀ (hl : ks.length ≤ 100000), ∀ (hg : headGood ks), BodK w 250 [.bytes b tb] 8 news (fun r N => N = news ∧ ((ks.getD 8 0 ≤ 1 ∧ r = .none) ∨ (1 < ks.getD 8 0 ∧ ∃ b t, r = .bytes b t ∧ BI b = hopOct ks))) F9) (z.1) (z.2.1) (z.2.2.1) (z.2.2.2.1) (z.2.2.2.2.1) (z.2.2.2.2.2)
@[irreducible] noncomputable def lessened_octets_c_z : Fra × World × Array UInt8 × TC × List Int × Led := wit (fra0, wrl0, #[], 0, [], []) lessened_octets_c_S
namespace lessened_octets_c_
@[irreducible] noncomputable def F9 : Fra := lessened_octets_c_z.1
@[irreducible] noncomputable def w : World := lessened_octets_c_z.2.1
@[irreducible] noncomputable def b : Array UInt8 := lessened_octets_c_z.2.2.1
@[irreducible] noncomputable def tb : TC := lessened_octets_c_z.2.2.2.1
@[irreducible] noncomputable def ks : List Int := lessened_octets_c_z.2.2.2.2.1
@[irreducible] noncomputable def news : Led := lessened_octets_c_z.2.2.2.2.2
theorem run : ∀ (hb : BI b = ks), ∀ (hl : ks.length ≤ 100000), ∀ (hg : headGood ks), BodK w 250 [.bytes b tb] 8 news (fun r N => N = news ∧ ((ks.getD 8 0 ≤ 1 ∧ r = .none) ∨ (1 < ks.getD 8 0 ∧ ∃ b t, r = .bytes b t ∧ BI b = hopOct ks))) F9 := by
  intro hb hl hg
  have hB := inB_of hb
  have i0 := getD_inB hB 8
  have i1 := g16_in hB 8
  have i2 := g16_in hB 10
  have hz : 256 * ks.getD 8 0 ≤ g16 ks 8 := by
    have := getD_inB hB (8 + 1)
    unfold g16; lia
  refine' BodK.enter ?ho ?hb ?_; (case ho => k_is); (case hb => first | (dsimp only [List.map, List.zip, List.zipWith]; done) | (dsimp only [List.map, List.zip, List.zipWith]; exact rfl))
  intro B' F' X' N' T' hd hu hPE hnx hret
  k_steps
  · exact absurd hg (by assumption)
  · ((try with_reducible refine hnx _ ?_); exact hret _ _ _ _ ⟨rfl, .inl ⟨by assumption, rfl⟩⟩ (by k_asm) (by first | k_asm | exact news_subL (by assumption) (by k_extra "sub") | exact news_sub (by assumption) (by intro p hp; (try simp only [List.mem_cons, List.mem_append] at hp ⊢); grind)))
  · skip
    rename (BI _ = _) => hR
    ((try with_reducible refine hnx _ ?_); exact hret _ _ _ _ ⟨rfl, .inr ⟨by lia, _, _, rfl, hR⟩⟩ (by k_asm) (by first | k_asm | exact news_subL (by assumption) (by k_extra "sub") | exact news_sub (by assumption) (by intro p hp; (try simp only [List.mem_cons, List.mem_append] at hp ⊢); grind)))
end lessened_octets_c_
theorem lessened_octets_c (w : World) (b : Array UInt8) (tb : TC) (ks : List Int) (news : Led) (hb : BI b = ks) (hl : ks.length ≤ 100000) (hg : headGood ks)  : Con w (.ref 250) [.bytes b tb] 8 news (fun r N => N = news ∧ ((ks.getD 8 0 ≤ 1 ∧ r = .none) ∨ (1 < ks.getD 8 0 ∧ ∃ b t, r = .bytes b t ∧ BI b = hopOct ks))) := by
  refine' BodK.con ?ho ?hcd ?hb ?hq ?hloc ?hco ?hgen ?hk ?hcell ?hD (fun F9 => @wit_all _ (fra0, wrl0, #[], 0, [], []) lessened_octets_c_S (by with_unfolding_all exact lessened_octets_c_.run) (F9, w, b, tb, ks, news) hb hl hg); (case ho => k_is); (case hcd => k_is); (case hb => first | (dsimp only [List.map, List.zip, List.zipWith]; done) | (dsimp only [List.map, List.zip, List.zipWith]; exact rfl)); (case hq => first | exact fun _ _ => BindsTo.of_eq rfl | (intro s7 X7; exact binds_K X7 rfl (by k_is) rfl rfl rfl)); (case hloc => exact locs rfl); (case hco => exact rfl); (case hgen => exact rfl); (case hk => exact rfl); (case hcell => decide); (case hD => decide)

/-! ip_options -/
noncomputable def hdr_row_c_S (z : Fra × World × Addr × Addr × (Nat → TC) × (Nat → TC) × Array UInt8 × Hdr × Led) : Prop :=
  (fun (F9 : Fra) (w : World) (x : Addr) (dx : Addr) (c : Nat → TC) (u : Nat → TC) (b : Array UInt8) (h : Hdr) (news : Led) => ∀ (hx : (x, instObj 183 dx) ∈ news), ∀ (hd : (dx, dictOf (hdrV w c u b h) 10) ∈ news), BodK w 180 [.ref x] 2 news (fun r N => ∃ ax, r = .ref ax ∧ N = (ax, Obj.mk (.type "tuple") none (.seq #[.int h.source (u 0), .int h.target (u 1), .int h.protocol (u 2), .int h.ident (u 3), .int h.ttl (u 4), .int h.tos (u 5), .bool h.dont, .bool h.more, .int h.offset (u 6), .bytes b (u 7)]) #[]) :: news ∧ ∀ p ∈ news, p.1 < ax) F9) (z.1) (z.2.1) (z.2.2.1) (z.2.2.2.1) (z.2.2.2.2.1) (z.2.2.2.2.2.1) (z.2.2.2.2.2.2.1) (z.2.2.2.2.2.2.2.1) (z.2.2.2.2.2.2.2.2)
@[irreducible] noncomputable def hdr_row_c_z : Fra × World × Addr × Addr × (Nat → TC) × (Nat → TC) × Array UInt8 × Hdr × Led := wit (fra0, wrl0, 0, 0, fun _ => 0, fun _ => 0, #[], ⟨0, 0, 0, 0, 0, 0, false, false, 0, []⟩, []) hdr_row_c_S
namespace hdr_row_c_
@[irreducible] noncomputable def F9 : Fra := hdr_row_c_z.1
@[irreducible] noncomputable def w : World := hdr_row_c_z.2.1
@[irreducible] noncomputable def x : Addr := hdr_row_c_z.2.2.1
@[irreducible] noncomputable def dx : Addr := hdr_row_c_z.2.2.2.1
@[irreducible] noncomputable def c : Nat → TC := hdr_row_c_z.2.2.2.2.1
@[irreducible] noncomputable def u : Nat → TC := hdr_row_c_z.2.2.2.2.2.1
@[irreducible] noncomputable def b : Array UInt8 := hdr_row_c_z.2.2.2.2.2.2.1
@[irreducible] noncomputable def h : Hdr := hdr_row_c_z.2.2.2.2.2.2.2.1
@[irreducible] noncomputable def news : Led := hdr_row_c_z.2.2.2.2.2.2.2.2
theorem run : ∀ (hx : (x, instObj 183 dx) ∈ news), ∀ (hd : (dx, dictOf (hdrV w c u b h) 10) ∈ news), BodK w 180 [.ref x] 2 news (fun r N => ∃ ax, r = .ref ax ∧ N = (ax, Obj.mk (.type "tuple") none (.seq #[.int h.source (u 0), .int h.target (u 1), .int h.protocol (u 2), .int h.ident (u 3), .int h.ttl (u 4), .int h.tos (u 5), .bool h.dont, .bool h.more, .int h.offset (u 6), .bytes b (u 7)]) #[]) :: news ∧ ∀ p ∈ news, p.1 < ax) F9 := by
  intro hx hd
  refine' BodK.enter ?ho ?hb ?_; (case ho => k_is); (case hb => first | (dsimp only [List.map, List.zip, List.zipWith]; done) | (dsimp only [List.map, List.zip, List.zipWith]; exact rfl))
  intro B' F' X' N' T' hd hu hPE hnx hret
  k_steps
  ((try with_reducible refine hnx _ ?_); exact hret _ _ _ _ ⟨_, rfl, rfl, by assumption⟩ (by k_asm) (by k_asm))
end hdr_row_c_
theorem hdr_row_c (w : World) (x dx : Addr) (c u : Nat → TC) (b : Array UInt8) (h : Hdr) (news : Led) (hx : (x, instObj 183 dx) ∈ news) (hd : (dx, dictOf (hdrV w c u b h) 10) ∈ news)  : Con w (.ref 180) [.ref x] 2 news (fun r N => ∃ ax, r = .ref ax ∧ N = (ax, Obj.mk (.type "tuple") none (.seq #[.int h.source (u 0), .int h.target (u 1), .int h.protocol (u 2), .int h.ident (u 3), .int h.ttl (u 4), .int h.tos (u 5), .bool h.dont, .bool h.more, .int h.offset (u 6), .bytes b (u 7)]) #[]) :: news ∧ ∀ p ∈ news, p.1 < ax) := by
  refine' BodK.con ?ho ?hcd ?hb ?hq ?hloc ?hco ?hgen ?hk ?hcell ?hD (fun F9 => @wit_all _ (fra0, wrl0, 0, 0, fun _ => 0, fun _ => 0, #[], ⟨0, 0, 0, 0, 0, 0, false, false, 0, []⟩, []) hdr_row_c_S (by with_unfolding_all exact hdr_row_c_.run) (F9, w, x, dx, c, u, b, h, news) hx hd); (case ho => k_is); (case hcd => k_is); (case hb => first | (dsimp only [List.map, List.zip, List.zipWith]; done) | (dsimp only [List.map, List.zip, List.zipWith]; exact rfl)); (case hq => first | exact fun _ _ => BindsTo.of_eq rfl | (intro s7 X7; exact binds_K X7 rfl (by k_is) rfl rfl rfl)); (case hloc => exact locs rfl); (case hco => exact rfl); (case hgen => exact rfl); (case hk => exact rfl); (case hcell => decide); (case hD => decide)

theorem hdr_row_c_k (w : World) (x dx : Addr) (c u : Nat → TC) (b : Array UInt8) (h : Hdr) (news : Led) (hx : (x, instObj 183 dx) ∈ news) (hd : (dx, dictOf (hdrV w c u b h) 10) ∈ news)  :
   Kon w (.ref 180) [.ref x] 2 news (fun K9 => ∀ ax, (∀ p ∈ news, p.1 < ax) → K9 (.ref ax) ((ax, Obj.mk (.type "tuple") none (.seq #[.int h.source (u 0), .int h.target (u 1), .int h.protocol (u 2), .int h.ident (u 3), .int h.ttl (u 4), .int h.tos (u 5), .bool h.dont, .bool h.more, .int h.offset (u 6), .bytes b (u 7)]) #[]) :: news))  :=
  Con.kon (hdr_row_c w x dx c u b h news hx hd) (by
    rintro K9 g9 r9 N9 ⟨v0, rfl, rfl, v1⟩
    exact g9 v0 v1)
theorem reg_p11_0 : True := by
  k_with "call ref" => (k_here; (with_reducible show wpAny _ _ (call (Value.ref 180) _) _ _ _); k_dflt (refine' Kon.go ?_ ?_ ?_ ?_ ?_ ?_ ?_ ?_ ?_ ?_; walk_at "side 0"; (any_goals ((with_reducible show Kon _ _ _ _ _ _); exact (hdr_row_c_k _ _ _ _ _ _ _ _ (by k_mem) (by k_mem)))); walk_at "side 9"); intro _ _ _ _ l1' _; (try k_lt l1'))
  trivial
noncomputable def is_single_c_S (z : Fra × World × Int × TC × Led) : Prop :=
  (fun (F9 : Fra) (w : World) (k : Int) (t : TC) (news : Led) => BodK w 257 [.int k t] 1 news (fun r N => N = news ∧ r = .bool (decide (k = 0 ∨ k = 1))) F9) (z.1) (z.2.1) (z.2.2.1) (z.2.2.2.1) (z.2.2.2.2)
@[irreducible] noncomputable def is_single_c_z : Fra × World × Int × TC × Led := wit (fra0, wrl0, 0, 0, []) is_single_c_S
namespace is_single_c_
@[irreducible] noncomputable def F9 : Fra := is_single_c_z.1
@[irreducible] noncomputable def w : World := is_single_c_z.2.1
@[irreducible] noncomputable def k : Int := is_single_c_z.2.2.1
@[irreducible] noncomputable def t : TC := is_single_c_z.2.2.2.1
@[irreducible] noncomputable def news : Led := is_single_c_z.2.2.2.2
theorem run : BodK w 257 [.int k t] 1 news (fun r N => N = news ∧ r = .bool (decide (k = 0 ∨ k = 1))) F9 := by

  refine' BodK.enter ?ho ?hb ?_; (case ho => k_is); (case hb => first | (dsimp only [List.map, List.zip, List.zipWith]; done) | (dsimp only [List.map, List.zip, List.zipWith]; exact rfl))
  intro B' F' X' N' T' hd hu hPE hnx hret
  k_steps
  all_goals ((try with_reducible refine hnx _ ?_); exact hret _ _ _ _ ⟨rfl, congrArg Value.bool (by rw [Bool.eq_iff_iff]; simp only [beq_iff_eq, decide_eq_true_eq]; lia)⟩ (by k_asm) (by first | k_asm | exact news_subL (by assumption) (by k_extra "sub") | exact news_sub (by assumption) (by intro p hp; (try simp only [List.mem_cons, List.mem_append] at hp ⊢); grind)))
end is_single_c_
theorem is_single_c (w : World) (k : Int) (t : TC) (news : Led)  : Con w (.ref 257) [.int k t] 1 news (fun r N => N = news ∧ r = .bool (decide (k = 0 ∨ k = 1))) := by
  refine' BodK.con ?ho ?hcd ?hb ?hq ?hloc ?hco ?hgen ?hk ?hcell ?hD (fun F9 => @wit_all _ (fra0, wrl0, 0, 0, []) is_single_c_S (by with_unfolding_all exact is_single_c_.run) (F9, w, k, t, news)); (case ho => k_is); (case hcd => k_is); (case hb => first | (dsimp only [List.map, List.zip, List.zipWith]; done) | (dsimp only [List.map, List.zip, List.zipWith]; exact rfl)); (case hq => first | exact fun _ _ => BindsTo.of_eq rfl | (intro s7 X7; exact binds_K X7 rfl (by k_is) rfl rfl rfl)); (case hloc => exact locs rfl); (case hco => exact rfl); (case hgen => exact rfl); (case hk => exact rfl); (case hcell => decide); (case hD => decide)

theorem is_single_c_k (w : World) (k : Int) (t : TC) (news : Led)  :
   Kon w (.ref 257) [.int k t] 1 news (fun K9 =>  K9 (.bool (decide (k = 0 ∨ k = 1))) (news))  :=
  Con.kon (is_single_c w k t news) (by
    rintro K9 g9 r9 N9 ⟨rfl, rfl⟩
    exact g9)
theorem reg_p11_1 : True := by
  k_with "call ref" => (k_here; (with_reducible show wpAny _ _ (call (Value.ref 257) _) _ _ _); k_dflt (refine' Kon.go ?_ ?_ ?_ ?_ ?_ ?_ ?_ ?_ ?_ ?_; walk_at "side 0"; (any_goals ((with_reducible show Kon _ _ _ _ _ _); exact (is_single_c_k _ _ _ _))); walk_at "side 9"); intro _ _ _ _)
  k_with "k_all" => assumption
  trivial
/-- an option in the ledger: a pair of its kind and its octets -/
structure OD where
  a : Addr
  k : Int
  kt : TC
  b : Array UInt8
  bt : TC
noncomputable def OD.ent (d : OD) : Addr × Obj := (d.a, Obj.mk (.type "tuple") none (.seq #[.int d.k d.kt, .bytes d.b d.bt]) #[])
noncomputable def optL (ds : List OD) : Led := ds.map OD.ent
noncomputable def optsOf (ds : List OD) : List (Int × List Int) := ds.map fun d => (d.k, BI d.b)
noncomputable def optR (ds : List OD) : List Value := ds.map fun d => .ref d.a
theorem optR_length (ds : List OD) : (optR ds).length = ds.length := by simp [optR]
theorem optR_snoc (ds : List OD) (d : OD) : optR (ds ++ [d]) = optR ds ++ [.ref d.a] := by simp [optR]
theorem optL_snoc (ds : List OD) (d : OD) : optL (ds ++ [d]) = optL ds ++ [d.ent] := by simp [optL]
theorem optsOf_snoc (ds : List OD) (d : OD) : optsOf (ds ++ [d]) = optsOf ds ++ [(d.k, BI d.b)] := by simp [optsOf]
noncomputable instance (ks : List Int) (i : Int) : Decidable (sizeGood ks i) := by unfold sizeGood; infer_instance
/-- what the options' octets tell, from the place i on -/
noncomputable def rdO (ks : List Int) : Nat → Int → Option (List (Int × List Int))
  | 0, _ => none
  | n + 1, i =>
    if i < ks.length ∧ ks.getD i.toNat 0 ≠ 0 then
      if ks.getD i.toNat 0 = 1 then (rdO ks n (i + 1)).map ((1, []) :: ·)
      else if sizeGood ks i then (rdO ks n (i + ks.getD (i + 1).toNat 0)).map ((ks.getD i.toNat 0, (ks.drop (i + 2).toNat).take ((i + ks.getD (i + 1).toNat 0).toNat - (i + 2).toNat)) :: ·)
      else none
    else some []
noncomputable def rdAll (ks : List Int) : Option (List (Int × List Int)) := rdO ks (ks.length + 1) 0
theorem rd_step {o : Option (List (Int × List Int))} {l : List (Int × List Int)} {q : Int × List Int} : (o.map (q :: ·)).map (l ++ ·) = o.map (l ++ [q] ++ ·) := by
  cases o <;> simp
structure RdS where
  la : Addr
  ds : List OD
  n : Nat
  fuel : Nat
  i : Int
  ti : TC
noncomputable def RdInv (ks : List Int) (c : RdS) : Prop :=
  0 ≤ c.i ∧ c.i ≤ ks.length ∧ (ks.length : Int) + 1 ≤ c.i + c.fuel ∧ (c.ds.length : Int) ≤ c.i ∧ rdAll ks = (rdO ks c.fuel c.i).map (optsOf c.ds ++ ·)
theorem reg_p11_2 : True := by
  k_with "size_fits" => ((simp only [List.size_toArray, optR_length, sizeLine_eq]); lia)
  trivial
theorem rd_news {g h : Heap} {L la D : Addr} {ds : List OD} {n : Nat} {k : Int} {kt bt : TC} {b : Array UInt8} {news : Led}
    (N : News g L h ((D, Obj.mk (.type "tuple") none (.seq #[.int k kt, .bytes b bt]) #[]) :: (la, listOf ((optR ds).toArray.push (.ref D)) (n + 1)) :: (optL ds ++ news))) :
    News g L h ((la, listOf (optR (ds ++ [⟨D, k, kt, b, bt⟩])).toArray (n + 1)) :: (optL (ds ++ [⟨D, k, kt, b, bt⟩]) ++ news)) := by
  rw [optR_snoc, optL_snoc, ← List.push_toArray]
  refine news_sub N fun p hp => ?_
  simp only [List.mem_cons, List.mem_append, List.not_mem_nil, or_false, OD.ent] at hp ⊢
  grind
theorem rd_above {la D : Addr} {ds : List OD} {k : Int} {kt bt : TC} {b : Array UInt8} (h : ∀ p ∈ optL ds, la < p.1) (hD : la < D) : ∀ p ∈ optL (ds ++ [⟨D, k, kt, b, bt⟩]), la < p.1 := by
  rw [optL_snoc]
  intro p hp
  rcases List.mem_append.mp hp with hp | hp
  · exact h p hp
  · rw [List.mem_singleton.mp hp]; exact hD
theorem rd_one {ks : List Int} {la D : Addr} {ds : List OD} {n n' fuel : Nat} {i : Int} {ti ti' kt bt : TC} (h : RdInv ks ⟨la, ds, n, fuel, i, ti⟩) (a1 : i < ks.length) (a2 : ks.getD i.toNat 0 ≠ 0) (a3 : ks.getD i.toNat 0 = 0 ∨ ks.getD i.toNat 0 = 1) :
    RdInv ks ⟨la, ds ++ [⟨D, ks.getD i.toNat 0, kt, #[], bt⟩], n', fuel - 1, i + 1, ti'⟩ ∧ fuel - 1 < fuel := by
  obtain ⟨h0, h1, h2, h3, h4⟩ := h
  dsimp only at h0 h1 h2 h3 h4
  obtain ⟨f, rfl⟩ : ∃ f, fuel = f + 1 := ⟨fuel - 1, by lia⟩
  refine ⟨⟨by dsimp only; lia, by dsimp only; lia, by dsimp only; lia, by simp only [List.length_append, List.length_singleton]; lia, ?_⟩, by lia⟩
  have e1 : ks.getD i.toNat 0 = 1 := by lia
  rw [h4]
  simp only [rdO, Nat.add_sub_cancel]
  rw [if_pos ⟨a1, a2⟩, if_pos e1, optsOf_snoc, rd_step, e1]
  rfl
theorem rd_many {ks : List Int} {la D : Addr} {ds : List OD} {n n' fuel : Nat} {i : Int} {ti ti' kt bt : TC} {b : Array UInt8} (h : RdInv ks ⟨la, ds, n, fuel, i, ti⟩) (a1 : i < ks.length) (a2 : ks.getD i.toNat 0 ≠ 0) (a3 : ¬ (ks.getD i.toNat 0 = 0 ∨ ks.getD i.toNat 0 = 1))
    (hs : sizeGood ks i) (hb : BI b = (ks.drop (i + 2).toNat).take ((i + ks.getD (i + 1).toNat 0).toNat - (i + 2).toNat)) :
    RdInv ks ⟨la, ds ++ [⟨D, ks.getD i.toNat 0, kt, b, bt⟩], n', fuel - 1, i + ks.getD (i + 1).toNat 0, ti'⟩ ∧ fuel - 1 < fuel := by
  obtain ⟨h0, h1, h2, h3, h4⟩ := h
  dsimp only at h0 h1 h2 h3 h4
  obtain ⟨f, rfl⟩ : ∃ f, fuel = f + 1 := ⟨fuel - 1, by lia⟩
  have hs' := hs
  obtain ⟨g1, g2, g3⟩ := hs'
  refine ⟨⟨by dsimp only; lia, by dsimp only; lia, by dsimp only; lia, by simp only [List.length_append, List.length_singleton]; lia, ?_⟩, by lia⟩
  rw [h4]
  simp only [rdO, Nat.add_sub_cancel]
  rw [if_pos ⟨a1, a2⟩, if_neg (by lia), if_pos hs, optsOf_snoc, rd_step, hb]
theorem rd_bad {ks : List Int} {la : Addr} {ds : List OD} {n fuel : Nat} {i : Int} {ti : TC} (h : RdInv ks ⟨la, ds, n, fuel, i, ti⟩) (a1 : i < ks.length) (a2 : ks.getD i.toNat 0 ≠ 0) (a3 : ¬ (ks.getD i.toNat 0 = 0 ∨ ks.getD i.toNat 0 = 1))
    (hs : ¬ sizeGood ks i) : rdAll ks = none := by
  obtain ⟨h0, h1, h2, h3, h4⟩ := h
  dsimp only at h0 h1 h2 h3 h4
  obtain ⟨f, rfl⟩ : ∃ f, fuel = f + 1 := ⟨fuel - 1, by lia⟩
  rw [h4]
  simp only [rdO]
  rw [if_pos ⟨a1, a2⟩, if_neg (by lia), if_neg hs]; rfl
theorem rd_end {ks : List Int} {la : Addr} {ds : List OD} {n fuel : Nat} {i : Int} {ti : TC} (h : RdInv ks ⟨la, ds, n, fuel, i, ti⟩) (a : ¬ (i < ks.length ∧ ks.getD i.toNat 0 ≠ 0)) : rdAll ks = some (optsOf ds) := by
  obtain ⟨h0, h1, h2, h3, h4⟩ := h
  dsimp only at h0 h1 h2 h3 h4
  obtain ⟨f, rfl⟩ : ∃ f, fuel = f + 1 := ⟨fuel - 1, by lia⟩
  rw [h4]
  simp only [rdO]
  rw [if_neg a]; simp
noncomputable def read_options_c_S (z : Fra × World × Array UInt8 × TC × List Int × Led) : Prop :=
  (fun (F9 : Fra) (w : World) (b : Array UInt8) (tb : TC) (ks : List Int) (news : Led) => ∀ (hb : BI b = ks), ∀ (hl : ks.length ≤ 100000), BodKR w 264 [.bytes b tb] 8 news (fun r N => ∃ la ds n, r = .ref la ∧ N = (la, listOf (optR ds).toArray n) :: (optL ds ++ news) ∧ rdAll ks = some (optsOf ds) ∧ ds.length ≤ ks.length ∧ (∀ p ∈ optL ds, la < p.1) ∧ ∀ p ∈ news, p.1 < la) 51 (rdAll ks = none) F9) (z.1) (z.2.1) (z.2.2.1) (z.2.2.2.1) (z.2.2.2.2.1) (z.2.2.2.2.2)
@[irreducible] noncomputable def read_options_c_z : Fra × World × Array UInt8 × TC × List Int × Led := wit (fra0, wrl0, #[], 0, [], []) read_options_c_S
namespace read_options_c_
@[irreducible] noncomputable def F9 : Fra := read_options_c_z.1
@[irreducible] noncomputable def w : World := read_options_c_z.2.1
@[irreducible] noncomputable def b : Array UInt8 := read_options_c_z.2.2.1
@[irreducible] noncomputable def tb : TC := read_options_c_z.2.2.2.1
@[irreducible] noncomputable def ks : List Int := read_options_c_z.2.2.2.2.1
@[irreducible] noncomputable def news : Led := read_options_c_z.2.2.2.2.2
theorem run : ∀ (hb : BI b = ks), ∀ (hl : ks.length ≤ 100000), BodKR w 264 [.bytes b tb] 8 news (fun r N => ∃ la ds n, r = .ref la ∧ N = (la, listOf (optR ds).toArray n) :: (optL ds ++ news) ∧ rdAll ks = some (optsOf ds) ∧ ds.length ≤ ks.length ∧ (∀ p ∈ optL ds, la < p.1) ∧ ∀ p ∈ news, p.1 < la) 51 (rdAll ks = none) F9 := by
  intro hb hl
  have hB := inB_of hb
  refine' BodKR.enter ?ho ?hb ?_; (case ho => k_is); (case hb => first | (dsimp only [List.map, List.zip, List.zipWith]; done) | (dsimp only [List.map, List.zip, List.zipWith]; exact rfl))
  intro B' F' X' N' T' hd hu hPE hnx hret hexa hexb
  k_with "exec While BoolOp cons nil" => (k_here; (rename Fr _ _ _ _ => lF'); (rename News _ _ _ _ => lN'); (with_unfolding_all refine' ksw_while (σ := RdS) (fun c => (c.la, listOf (optR c.ds).toArray c.n) :: (optL c.ds ++ news)) (fun c => [(Str.ofString "found", .ref c.la), (Str.ofString "at", .int c.i c.ti)]) (fun c => (∀ p ∈ optL c.ds, c.la < p.1) ∧ ∀ p ∈ news, p.1 < c.la) [Str.ofString "kind", Str.ofString "size"] (RdInv ks) (fun c => c.fuel) ⟨_, [], 0, ks.length + 1, 0, _⟩ lF' ?kn ?kf ?kk ?kp ?_); (case kn => exact lN'); (case kf => exact ⟨(fun _ hp => nomatch hp), by assumption⟩); (case kk => kst_all); (case kp => exact ⟨by simp, by simp, by simp, by simp, by simp [rdAll, optsOf]⟩); (all_goals (try clear lF' lN')); (rintro ⟨la, ds, n, fuel, i, ti⟩ u₉ h₉ tk₉ ⟨hf1, hf2⟩ hi9 F₁ N₁); (have hi8 := hi9; obtain ⟨hi0, hi1, hi2, hi3, hi4⟩ := hi8); (dsimp only [kstB, envOf] at F₁ N₁ hf1 hf2 hi0 hi1 hi2 hi3 hi4); (have i1 := getD_inB hB i.toNat); (have hne9 : ∀ p ∈ optL ds ++ news, p.1 ≠ la := fun p hp => (List.mem_append.mp hp).elim (fun h => Nat.ne_of_gt (hf1 p h)) (fun h => Nat.ne_of_lt (hf2 p h))); try k_fold)
  k_steps
  · rename News _ _ _ _ => nE'
    rename (la < _ ∧ AllLt _ _) => zl
    have z := rd_one (n' := n + 1) (ti' := 0) (D := 0) (kt := 0) (bt := 0) hi9 (by assumption) (by assumption) (by assumption)
    refine ksw_end ⟨la, ds ++ [⟨_, _, _, _, _⟩], n + 1, fuel - 1, _, _⟩ (by assumption) (rd_news nE') (fun _ h => h) ⟨rd_above hf1 zl.1, hf2⟩ (by kst_all) (by ksw_same) (rd_one hi9 (by assumption) (by assumption) (by assumption)).1 z.2
  · (first | (refine' hexa _ _ _ _ ?bad ?FG ?N ?X ?ne ?sub; (case N => k_asm); (case X => assumption); (case FG => k_asm); (case ne => assumption); (case sub => (first | exact fun _ hp => hp | exact (show SubL _ _ by k_extra "sub") | (intro p hp; simp only [List.mem_cons, List.mem_append, hp, or_true, true_or]))); (case bad => exact rd_bad hi9 (by assumption) (by assumption) (by assumption) (by assumption))) | (refine' hexb _ _ _ _ ?bad ?FG ?R ?U ?sub; (case R => assumption); (case FG => assumption); (case U => assumption); (case sub => (first | exact fun _ hp => hp | exact (show SubL _ _ by k_extra "sub") | (intro p hp; simp only [List.mem_cons, List.mem_append, hp, or_true, true_or]))); (case bad => exact rd_bad hi9 (by assumption) (by assumption) (by assumption) (by assumption))))
  · rename News _ _ _ _ => nE'
    rename (la < _ ∧ AllLt _ _) => zl
    refine ksw_end ⟨la, ds ++ [⟨_, _, _, _, _⟩], n + 1, fuel - 1, _, _⟩ (by assumption) (rd_news nE') (fun _ h => h) ⟨rd_above hf1 zl.1, hf2⟩ (by kst_all) (by ksw_same) (rd_many hi9 (by assumption) (by assumption) (by assumption) (by assumption) (by assumption)).1 (by dsimp only; lia)
  · ((try with_reducible refine hnx _ ?_); exact hret _ _ _ _ ⟨_, _, _, rfl, rfl, rd_end hi9 (by lia), by lia, hf1, hf2⟩ (by k_asm) (by k_asm))
  · ((try with_reducible refine hnx _ ?_); exact hret _ _ _ _ ⟨_, _, _, rfl, rfl, rd_end hi9 (by lia), by lia, hf1, hf2⟩ (by k_asm) (by k_asm))
end read_options_c_
theorem read_options_c (w : World) (b : Array UInt8) (tb : TC) (ks : List Int) (news : Led) (hb : BI b = ks) (hl : ks.length ≤ 100000)  : ConR w (.ref 264) [.bytes b tb] 8 news (fun r N => ∃ la ds n, r = .ref la ∧ N = (la, listOf (optR ds).toArray n) :: (optL ds ++ news) ∧ rdAll ks = some (optsOf ds) ∧ ds.length ≤ ks.length ∧ (∀ p ∈ optL ds, la < p.1) ∧ ∀ p ∈ news, p.1 < la) 51 (rdAll ks = none) := by
  refine' BodKR.con ?ho ?hcd ?hb ?hq ?hloc ?hco ?hgen ?hk ?hcell ?hD (fun F9 => @wit_all _ (fra0, wrl0, #[], 0, [], []) read_options_c_S (by with_unfolding_all exact read_options_c_.run) (F9, w, b, tb, ks, news) hb hl); (case ho => k_is); (case hcd => k_is); (case hb => first | (dsimp only [List.map, List.zip, List.zipWith]; done) | (dsimp only [List.map, List.zip, List.zipWith]; exact rfl)); (case hq => first | exact fun _ _ => BindsTo.of_eq rfl | (intro s7 X7; exact binds_K X7 rfl (by k_is) rfl rfl rfl)); (case hloc => exact locs rfl); (case hco => exact rfl); (case hgen => exact rfl); (case hk => exact rfl); (case hcell => decide); (case hD => decide)

theorem read_options_c_k (w : World) (b : Array UInt8) (tb : TC) (ks : List Int) (news : Led) (hb : BI b = ks) (hl : ks.length ≤ 100000)  :
   KonR w (.ref 264) [.bytes b tb] 8 news (fun K9 => ∀ la ds n, (rdAll ks = some (optsOf ds)) → (ds.length ≤ ks.length) → ((∀ p ∈ optL ds, la < p.1)) → (∀ p ∈ news, p.1 < la) → K9 (.ref la) ((la, listOf (optR ds).toArray n) :: (optL ds ++ news))) 51 (rdAll ks = none) :=
  ConR.kon (read_options_c w b tb ks news hb hl) (by
    rintro K9 g9 r9 N9 ⟨v0, v1, v2, rfl, rfl, v3, v4, v5, v6⟩
    exact g9 v0 v1 v2 v3 v4 v5 v6)
theorem reg_p11_3 : True := by
  k_with "call ref" => (k_here; (with_reducible show wpAny _ _ (call (Value.ref 264) _) _ _ _); k_dflt (refine' KonR.go ?_ ?_ ?_ ?_ ?_ ?_ ?_ ?_ ?_ ?_ ?_; walk_at "side 0"; (any_goals ((with_reducible show KonR _ _ _ _ _ _ _ _); exact (read_options_c_k _ _ _ _ _ (by assumption) (by kba_size)))); walk_at "side 9"; intro _ _ _ _ _ _ _ _ _ l1' _; (try k_lt l1'); rotate_left 1; intro _ _ _ _ _ _ _ _; (try dsimp only)))
  trivial

/-! write_options and its parts -/
noncomputable def optB (q : Int × List Int) : List Int := if q.1 = 1 then [1] else [q.1, (q.2.length : Int) + 2] ++ q.2
noncomputable def optOk (q : Int × List Int) : Prop := (q.1 = 1 ∧ q.2 = []) ∨ (2 ≤ q.1 ∧ q.1 ≤ 255 ∧ q.2.length + 2 ≤ 40)
theorem optB_len {q : Int × List Int} (h : optOk q) : (optB q).length ≤ 40 := by
  unfold optB; split
  · simp
  · rcases h with h | h
    · exact absurd h.1 (by assumption)
    · simp only [List.length_append, List.length_cons, List.length_nil]; lia
noncomputable def option_octets_c_S (z : Fra × World × Int × TC × Array UInt8 × TC × List Int × Led) : Prop :=
  (fun (F9 : Fra) (w : World) (k : Int) (kt : TC) (b : Array UInt8) (bt : TC) (ks : List Int) (news : Led) => ∀ (hb : BI b = ks), ∀ (hok : optOk (k, ks)), BodK w 285 [.int k kt, .bytes b bt] 4 news (fun r N => N = news ∧ ∃ b t, r = .bytes b t ∧ BI b = optB (k, ks)) F9) (z.1) (z.2.1) (z.2.2.1) (z.2.2.2.1) (z.2.2.2.2.1) (z.2.2.2.2.2.1) (z.2.2.2.2.2.2.1) (z.2.2.2.2.2.2.2)
@[irreducible] noncomputable def option_octets_c_z : Fra × World × Int × TC × Array UInt8 × TC × List Int × Led := wit (fra0, wrl0, 0, 0, #[], 0, [], []) option_octets_c_S
namespace option_octets_c_
@[irreducible] noncomputable def F9 : Fra := option_octets_c_z.1
@[irreducible] noncomputable def w : World := option_octets_c_z.2.1
@[irreducible] noncomputable def k : Int := option_octets_c_z.2.2.1
@[irreducible] noncomputable def kt : TC := option_octets_c_z.2.2.2.1
@[irreducible] noncomputable def b : Array UInt8 := option_octets_c_z.2.2.2.2.1
@[irreducible] noncomputable def bt : TC := option_octets_c_z.2.2.2.2.2.1
@[irreducible] noncomputable def ks : List Int := option_octets_c_z.2.2.2.2.2.2.1
@[irreducible] noncomputable def news : Led := option_octets_c_z.2.2.2.2.2.2.2
theorem run : ∀ (hb : BI b = ks), ∀ (hok : optOk (k, ks)), BodK w 285 [.int k kt, .bytes b bt] 4 news (fun r N => N = news ∧ ∃ b t, r = .bytes b t ∧ BI b = optB (k, ks)) F9 := by
  intro hb hok
  have h1 : 1 ≤ k ∧ k ≤ 255 ∧ ks.length + 2 ≤ 40 := by
    rcases hok with ⟨h1, h2⟩ | ⟨h1, h2, h3⟩
    · dsimp only at h1 h2; rw [h2]; simp; lia
    · exact ⟨by dsimp only at h1; lia, h2, h3⟩
  have h2 : k = 1 → ks = [] := by
    rcases hok with ⟨h1, h2⟩ | ⟨h1, h2, h3⟩
    · exact fun _ => h2
    · dsimp only at h1; lia
  have h3 : k = 1 → ks.length = 0 := fun h => by rw [h2 h]; rfl
  have he : BI #[] = [] := rfl
  obtain ⟨h1a, h1b, h1c⟩ := h1
  refine' BodK.enter ?ho ?hb ?_; (case ho => k_is); (case hb => first | (dsimp only [List.map, List.zip, List.zipWith]; done) | (dsimp only [List.map, List.zip, List.zipWith]; exact rfl))
  intro B' F' X' N' T' hd hu hPE hnx hret
  k_steps
  all_goals first
    | (exfalso; lia)
    | (rename (BI _ = _) => hR; ((try with_reducible refine hnx _ ?_); exact hret _ _ _ _ ⟨rfl, _, _, rfl, by rw [hR]; unfold optB; rw [if_pos (show k = 1 by lia)]; rw [show k = 1 by lia]⟩ (by k_asm) (by first | k_asm | exact news_subL (by assumption) (by k_extra "sub") | exact news_sub (by assumption) (by intro p hp; (try simp only [List.mem_cons, List.mem_append] at hp ⊢); grind))))
    | (rename (BI _ = _) => hR; ((try with_reducible refine hnx _ ?_); exact hret _ _ _ _ ⟨rfl, _, _, rfl, by rw [hR]; unfold optB; rw [if_neg (show ¬ k = 1 by lia)]⟩ (by k_asm) (by first | k_asm | exact news_subL (by assumption) (by k_extra "sub") | exact news_sub (by assumption) (by intro p hp; (try simp only [List.mem_cons, List.mem_append] at hp ⊢); grind))))
end option_octets_c_
theorem option_octets_c (w : World) (k : Int) (kt : TC) (b : Array UInt8) (bt : TC) (ks : List Int) (news : Led) (hb : BI b = ks) (hok : optOk (k, ks))  : Con w (.ref 285) [.int k kt, .bytes b bt] 4 news (fun r N => N = news ∧ ∃ b t, r = .bytes b t ∧ BI b = optB (k, ks)) := by
  refine' BodK.con ?ho ?hcd ?hb ?hq ?hloc ?hco ?hgen ?hk ?hcell ?hD (fun F9 => @wit_all _ (fra0, wrl0, 0, 0, #[], 0, [], []) option_octets_c_S (by with_unfolding_all exact option_octets_c_.run) (F9, w, k, kt, b, bt, ks, news) hb hok); (case ho => k_is); (case hcd => k_is); (case hb => first | (dsimp only [List.map, List.zip, List.zipWith]; done) | (dsimp only [List.map, List.zip, List.zipWith]; exact rfl)); (case hq => first | exact fun _ _ => BindsTo.of_eq rfl | (intro s7 X7; exact binds_K X7 rfl (by k_is) rfl rfl rfl)); (case hloc => exact locs rfl); (case hco => exact rfl); (case hgen => exact rfl); (case hk => exact rfl); (case hcell => decide); (case hD => decide)

theorem option_octets_c_k (w : World) (k : Int) (kt : TC) (b : Array UInt8) (bt : TC) (ks : List Int) (news : Led) (hb : BI b = ks) (hok : optOk (k, ks))  :
   Kon w (.ref 285) [.int k kt, .bytes b bt] 4 news (fun K9 => ∀ b t, (BI b = optB (k, ks)) → K9 (.bytes b t) (news))  :=
  Con.kon (option_octets_c w k kt b bt ks news hb hok) (by
    rintro K9 g9 r9 N9 ⟨rfl, v0, v1, rfl, v2⟩
    exact g9 v0 v1 v2)
theorem reg_p12_0 : True := by
  k_with "call ref" => (k_here; (with_reducible show wpAny _ _ (call (Value.ref 285) _) _ _ _); k_dflt (refine' Kon.go ?_ ?_ ?_ ?_ ?_ ?_ ?_ ?_ ?_ ?_; walk_at "side 0"; (any_goals ((with_reducible show Kon _ _ _ _ _ _); exact (option_octets_c_k _ _ _ _ _ _ _ (by assumption) (by assumption)))); walk_at "side 9"); intro _ _ _ _ _ _ _)
  trivial
theorem mem_optL {d : OD} {ds : List OD} (h : d ∈ ds) : d.ent ∈ optL ds := List.mem_map_of_mem h
theorem ok_of {ds : List OD} {l : List (Int × List Int)} {f : Int × List Int → Bool} (hf : optsOf ds = l.filter f) (hok : ∀ q ∈ l, optOk q) : ∀ d ∈ ds, optOk (d.k, BI d.b) := fun d hd => by
  have h : (d.k, BI d.b) ∈ optsOf ds := List.mem_map_of_mem (f := fun d : OD => (d.k, BI d.b)) hd
  rw [hf] at h
  exact hok _ (List.mem_filter.mp h).1
noncomputable def rawO (l : List (Int × List Int)) : List Int := l.flatMap optB
noncomputable def padO (ks : List Int) : List Int := ks ++ List.replicate ((4 - (ks.length : Int) % 4) % 4).toNat 0
noncomputable def wrO (l : List (Int × List Int)) : List Int := padO (rawO l)
theorem rawO_snoc (l : List (Int × List Int)) (q : Int × List Int) : rawO (l ++ [q]) = rawO l ++ optB q := by simp [rawO]
theorem rawO_take (l : List (Int × List Int)) (i : Nat) (q : Int × List Int) (h : l[i]? = some q) : rawO (l.take (i + 1)) = rawO (l.take i) ++ optB q := by
  rw [List.take_add_one, h]; exact rawO_snoc _ _
theorem rawO_take_len (l : List (Int × List Int)) (i : Nat) : (rawO (l.take i)).length ≤ (rawO l).length := by
  have e : rawO l = rawO (l.take i) ++ rawO (l.drop i) := by
    conv => lhs; rw [← List.take_append_drop i l]
    exact List.flatMap_append
  rw [e, List.length_append]; exact Nat.le_add_right _ _
theorem padO_len (ks : List Int) : (padO ks).length = ks.length + ((4 - (ks.length : Int) % 4) % 4).toNat := by simp [padO]
noncomputable def write_options_c_S (z : Fra × World × Addr × List OD × Nat × Led) : Prop :=
  (fun (F9 : Fra) (w : World) (la : Addr) (ds : List OD) (n : Nat) (news : Led) => ∀ (hla : (la, listOf (optR ds).toArray n) ∈ news), ∀ (hds : ∀ d ∈ ds, d.ent ∈ news), ∀ (hok : ∀ d ∈ ds, optOk (d.k, BI d.b)), ∀ (hlen : (rawO (optsOf ds)).length ≤ 40), BodK w 278 [.ref la] 6 news (fun r N => N = news ∧ ∃ b t, r = .bytes b t ∧ BI b = wrO (optsOf ds)) F9) (z.1) (z.2.1) (z.2.2.1) (z.2.2.2.1) (z.2.2.2.2.1) (z.2.2.2.2.2)
@[irreducible] noncomputable def write_options_c_z : Fra × World × Addr × List OD × Nat × Led := wit (fra0, wrl0, 0, [], 0, []) write_options_c_S
namespace write_options_c_
@[irreducible] noncomputable def F9 : Fra := write_options_c_z.1
@[irreducible] noncomputable def w : World := write_options_c_z.2.1
@[irreducible] noncomputable def la : Addr := write_options_c_z.2.2.1
@[irreducible] noncomputable def ds : List OD := write_options_c_z.2.2.2.1
@[irreducible] noncomputable def n : Nat := write_options_c_z.2.2.2.2.1
@[irreducible] noncomputable def news : Led := write_options_c_z.2.2.2.2.2
theorem run : ∀ (hla : (la, listOf (optR ds).toArray n) ∈ news), ∀ (hds : ∀ d ∈ ds, d.ent ∈ news), ∀ (hok : ∀ d ∈ ds, optOk (d.k, BI d.b)), ∀ (hlen : (rawO (optsOf ds)).length ≤ 40), BodK w 278 [.ref la] 6 news (fun r N => N = news ∧ ∃ b t, r = .bytes b t ∧ BI b = wrO (optsOf ds)) F9 := by
  intro hla hds hok hlen
  have he : BI #[] = [] := rfl
  refine' BodK.enter ?ho ?hb ?_; (case ho => k_is); (case hb => first | (dsimp only [List.map, List.zip, List.zipWith]; done) | (dsimp only [List.map, List.zip, List.zipWith]; exact rfl))
  intro B' F' X' N' T' hd hu hPE hnx hret
  k_steps
  rename Fr _ _ _ _ => lF
  rename News _ _ _ _ => lN
  refine' seq_turns (σ := Array UInt8 × TC) (fun _ => news) (fun c => [(Str.ofString "found", .bytes c.1 c.2)]) [Str.ofString "kind", Str.ofString "octets"] (fun i c => BI c.1 = rawO ((optsOf ds).take i)) (_, _) rfl lF lN hla (.inl rfl) rfl ?hk ?hp ?turn ?done
  case hk => intro p hp; rw [List.mem_singleton.mp hp]; rfl
  case hp => rfl
  · rintro ⟨b₉, t₉⟩ i₉ v₉ u₉ h₉ tk₉ own I hv hP hoff hlt hown F₁ N₁
    clear lF lN
    dsimp only [kstB, envOf] at F₁ N₁ hP
    simp only [optR, List.getElem?_map, Option.map_eq_some_iff] at hv
    obtain ⟨⟨a₁, k₁, kt₁, b₁, bt₁⟩, hd, rfl⟩ := hv
    have hm : (⟨a₁, k₁, kt₁, b₁, bt₁⟩ : OD).ent ∈ news := hds _ (List.mem_of_getElem? hd)
    dsimp only [OD.ent] at hm
    have hok1 := hok _ (List.mem_of_getElem? hd)
    have l1 := rawO_take_len (optsOf ds) i₉
    have l2 := optB_len hok1
    have hB₁ : BI b₁ = BI b₁ := rfl
    try k_fold
    k_steps
    rename (BI _ = rawO _ ++ _) => hR
    have hR2 := hR.trans (rawO_take (optsOf ds) i₉ _ (by simp only [optsOf, List.getElem?_map, hd]; rfl)).symm
    exact tend ((_, _)) (by assumption) (by assumption) (by intro p hp; first | exact List.mem_append_left _ hp | (simp only [List.mem_append, List.mem_cons] at hp ⊢; grind)) (by intro p hp; first | exact List.mem_append_right _ hp | (simp only [List.mem_append, List.mem_cons] at hp ⊢; grind)) (hoff) (by first | kst_all | exact (fun _ hp => nomatch hp)) (by ksw_same) (hR2)
  · rintro ⟨b₉, t₉⟩ u₉ h₉ tk₉ hP F₁ N₁
    clear lF lN
    dsimp only [kstB, envOf] at F₁ N₁ hP
    rw [optR_length, show ds.length = (optsOf ds).length from by simp [optsOf], List.take_length] at hP
    try k_fold
    k_steps
    · exfalso
      rename (_ > _) => hgt
      simp only [List.length_append, List.length_replicate] at hgt
      exact Int.not_le.mpr hgt (Int.ofNat_le.mpr (pad_40 hlen))
    · rename (BI _ = rawO _ ++ _) => hR
      ((try with_reducible refine hnx _ ?_); exact hret _ _ _ _ ⟨rfl, _, _, rfl, hR⟩ (by k_asm) (by first | k_asm | exact news_subL (by assumption) (by k_extra "sub") | exact news_sub (by assumption) (by intro p hp; (try simp only [List.mem_cons, List.mem_append] at hp ⊢); grind)))
end write_options_c_
theorem write_options_c (w : World) (la : Addr) (ds : List OD) (n : Nat) (news : Led) (hla : (la, listOf (optR ds).toArray n) ∈ news) (hds : ∀ d ∈ ds, d.ent ∈ news) (hok : ∀ d ∈ ds, optOk (d.k, BI d.b)) (hlen : (rawO (optsOf ds)).length ≤ 40)  : Con w (.ref 278) [.ref la] 6 news (fun r N => N = news ∧ ∃ b t, r = .bytes b t ∧ BI b = wrO (optsOf ds)) := by
  refine' BodK.con ?ho ?hcd ?hb ?hq ?hloc ?hco ?hgen ?hk ?hcell ?hD (fun F9 => @wit_all _ (fra0, wrl0, 0, [], 0, []) write_options_c_S (by with_unfolding_all exact write_options_c_.run) (F9, w, la, ds, n, news) hla hds hok hlen); (case ho => k_is); (case hcd => k_is); (case hb => first | (dsimp only [List.map, List.zip, List.zipWith]; done) | (dsimp only [List.map, List.zip, List.zipWith]; exact rfl)); (case hq => first | exact fun _ _ => BindsTo.of_eq rfl | (intro s7 X7; exact binds_K X7 rfl (by k_is) rfl rfl rfl)); (case hloc => exact locs rfl); (case hco => exact rfl); (case hgen => exact rfl); (case hk => exact rfl); (case hcell => decide); (case hD => decide)

theorem write_options_c_k (w : World) (la : Addr) (ds : List OD) (n : Nat) (news : Led) (hla : (la, listOf (optR ds).toArray n) ∈ news) (hds : ∀ d ∈ ds, d.ent ∈ news) (hok : ∀ d ∈ ds, optOk (d.k, BI d.b)) (hlen : (rawO (optsOf ds)).length ≤ 40)  :
   Kon w (.ref 278) [.ref la] 6 news (fun K9 => ∀ b t, (BI b = wrO (optsOf ds)) → K9 (.bytes b t) (news))  :=
  Con.kon (write_options_c w la ds n news hla hds hok hlen) (by
    rintro K9 g9 r9 N9 ⟨rfl, v0, v1, rfl, v2⟩
    exact g9 v0 v1 v2)
theorem reg_p12_1 : True := by
  k_with "call ref" => (k_here; (with_reducible show wpAny _ _ (call (Value.ref 278) _) _ _ _); k_dflt (refine' Kon.go ?_ ?_ ?_ ?_ ?_ ?_ ?_ ?_ ?_ ?_; walk_at "side 0"; (any_goals ((with_reducible show Kon _ _ _ _ _ _); exact (write_options_c_k _ _ _ _ _ (by k_mem) (by first | assumption | (intro _ hd; repeat (first | exact List.mem_append_left _ (mem_optL hd) | refine List.mem_cons_of_mem _ ?_ | refine List.mem_append_right _ ?_))) (by assumption) (by assumption)))); walk_at "side 9"); intro _ _ _ _ _ _ _)
  trivial
noncomputable def is_copied_c_S (z : Fra × World × Int × TC × Led) : Prop :=
  (fun (F9 : Fra) (w : World) (k : Int) (t : TC) (news : Led) => BodK w 292 [.int k t] 1 news (fun r N => N = news ∧ r = .bool (decide (128 ≤ k))) F9) (z.1) (z.2.1) (z.2.2.1) (z.2.2.2.1) (z.2.2.2.2)
@[irreducible] noncomputable def is_copied_c_z : Fra × World × Int × TC × Led := wit (fra0, wrl0, 0, 0, []) is_copied_c_S
namespace is_copied_c_
@[irreducible] noncomputable def F9 : Fra := is_copied_c_z.1
@[irreducible] noncomputable def w : World := is_copied_c_z.2.1
@[irreducible] noncomputable def k : Int := is_copied_c_z.2.2.1
@[irreducible] noncomputable def t : TC := is_copied_c_z.2.2.2.1
@[irreducible] noncomputable def news : Led := is_copied_c_z.2.2.2.2
theorem run : BodK w 292 [.int k t] 1 news (fun r N => N = news ∧ r = .bool (decide (128 ≤ k))) F9 := by

  refine' BodK.enter ?ho ?hb ?_; (case ho => k_is); (case hb => first | (dsimp only [List.map, List.zip, List.zipWith]; done) | (dsimp only [List.map, List.zip, List.zipWith]; exact rfl))
  intro B' F' X' N' T' hd hu hPE hnx hret
  k_steps
  all_goals ((try with_reducible refine hnx _ ?_); exact hret _ _ _ _ ⟨rfl, rfl⟩ (by k_asm) (by first | k_asm | exact news_subL (by assumption) (by k_extra "sub") | exact news_sub (by assumption) (by intro p hp; (try simp only [List.mem_cons, List.mem_append] at hp ⊢); grind)))
end is_copied_c_
theorem is_copied_c (w : World) (k : Int) (t : TC) (news : Led)  : Con w (.ref 292) [.int k t] 1 news (fun r N => N = news ∧ r = .bool (decide (128 ≤ k))) := by
  refine' BodK.con ?ho ?hcd ?hb ?hq ?hloc ?hco ?hgen ?hk ?hcell ?hD (fun F9 => @wit_all _ (fra0, wrl0, 0, 0, []) is_copied_c_S (by with_unfolding_all exact is_copied_c_.run) (F9, w, k, t, news)); (case ho => k_is); (case hcd => k_is); (case hb => first | (dsimp only [List.map, List.zip, List.zipWith]; done) | (dsimp only [List.map, List.zip, List.zipWith]; exact rfl)); (case hq => first | exact fun _ _ => BindsTo.of_eq rfl | (intro s7 X7; exact binds_K X7 rfl (by k_is) rfl rfl rfl)); (case hloc => exact locs rfl); (case hco => exact rfl); (case hgen => exact rfl); (case hk => exact rfl); (case hcell => decide); (case hD => decide)

theorem is_copied_c_k (w : World) (k : Int) (t : TC) (news : Led)  :
   Kon w (.ref 292) [.int k t] 1 news (fun K9 =>  K9 (.bool (decide (128 ≤ k))) (news))  :=
  Con.kon (is_copied_c w k t news) (by
    rintro K9 g9 r9 N9 ⟨rfl, rfl⟩
    exact g9)
theorem reg_p12_2 : True := by
  k_with "call ref" => (k_here; (with_reducible show wpAny _ _ (call (Value.ref 292) _) _ _ _); k_dflt (refine' Kon.go ?_ ?_ ?_ ?_ ?_ ?_ ?_ ?_ ?_ ?_; walk_at "side 0"; (any_goals ((with_reducible show Kon _ _ _ _ _ _); exact (is_copied_c_k _ _ _ _))); walk_at "side 9"); intro _ _ _ _)
  trivial
theorem mem_snoc {p : Addr × Obj} {c : List OD} {d : OD} {news : Led} (h : p ∈ optL (c ++ [d]) ++ news) : p = d.ent ∨ p ∈ optL c ++ news := by
  rw [optL_snoc] at h
  simp only [List.mem_append, List.mem_singleton] at h ⊢
  rcases h with (h | h) | h
  · exact .inr (.inl h)
  · exact .inl h
  · exact .inr (.inr h)
theorem od_bnd {h₀ h : Heap} {L : Addr} {l : Led} {d : OD} {x x₂ : Str} {px px₂ tp : Pos} {tk : Nat} {m₂ : Str → Option Value} (N : News h₀ L h l) (hm : d.ent ∈ l) (hb : Bnd (.Tuple [.Name x px, .Name x₂ px₂] tk tp) (.ref d.a) l m₂) :
    m₂ x = some (.int d.k d.kt) ∧ m₂ x₂ = some (.bytes d.b d.bt) := by
  obtain ⟨t, ot, v₁, v₂, nt, e, hmt, hct, hdt, h1, h2⟩ := hb
  cases e
  have e := news_one N hm hmt
  subst e
  cases hdt
  exact ⟨h1, h2⟩
noncomputable def copied_c_S (z : Fra × World × Addr × List OD × Nat × Led) : Prop :=
  (fun (F9 : Fra) (w : World) (la : Addr) (ds : List OD) (n : Nat) (news : Led) => ∀ (hla : (la, listOf (optR ds).toArray n) ∈ news), ∀ (hds : ∀ d ∈ ds, d.ent ∈ news), ∀ (hlen : ds.length ≤ 1000), BodK w 297 [.ref la] 4 news (fun r N => ∃ lb ds' n', r = .ref lb ∧ N = (lb, listOf (optR ds').toArray n') :: (optL ds' ++ news) ∧ optsOf ds' = (optsOf ds).filter (fun q => decide (128 ≤ q.1)) ∧ ∀ p ∈ optL ds' ++ news, p.1 ≠ lb) F9) (z.1) (z.2.1) (z.2.2.1) (z.2.2.2.1) (z.2.2.2.2.1) (z.2.2.2.2.2)
@[irreducible] noncomputable def copied_c_z : Fra × World × Addr × List OD × Nat × Led := wit (fra0, wrl0, 0, [], 0, []) copied_c_S
namespace copied_c_
@[irreducible] noncomputable def F9 : Fra := copied_c_z.1
@[irreducible] noncomputable def w : World := copied_c_z.2.1
@[irreducible] noncomputable def la : Addr := copied_c_z.2.2.1
@[irreducible] noncomputable def ds : List OD := copied_c_z.2.2.2.1
@[irreducible] noncomputable def n : Nat := copied_c_z.2.2.2.2.1
@[irreducible] noncomputable def news : Led := copied_c_z.2.2.2.2.2
theorem run : ∀ (hla : (la, listOf (optR ds).toArray n) ∈ news), ∀ (hds : ∀ d ∈ ds, d.ent ∈ news), ∀ (hlen : ds.length ≤ 1000), BodK w 297 [.ref la] 4 news (fun r N => ∃ lb ds' n', r = .ref lb ∧ N = (lb, listOf (optR ds').toArray n') :: (optL ds' ++ news) ∧ optsOf ds' = (optsOf ds).filter (fun q => decide (128 ≤ q.1)) ∧ ∀ p ∈ optL ds' ++ news, p.1 ≠ lb) F9 := by
  intro hla hds hlen
  refine' BodK.enter ?ho ?hb ?_; (case ho => k_is); (case hb => first | (dsimp only [List.map, List.zip, List.zipWith]; done) | (dsimp only [List.map, List.zip, List.zipWith]; exact rfl))
  intro B' F' X' N' T' hd hu hPE hnx hret
  k_steps
  rename Fr _ _ _ _ => lF
  rename News _ _ _ _ => lN
  refine comp_seq (σ := List OD) (vs := optR ds) (fun c => optL c ++ news) (fun i ys c => ys = optR c ∧ optsOf c = ((optsOf ds).take i).filter (fun q => decide (128 ≤ q.1))) [] rfl lF lN (fun c => List.mem_append_right _ hla) rfl rfl (by rw [optR_length, sizeLine_eq]; lia) (by decide) rfl ⟨rfl, rfl⟩ ?tgt ?turn ?done
  case tgt =>
    intro i v c hv
    simp only [optR, List.getElem?_map, Option.map_eq_some_iff] at hv
    obtain ⟨d, hd, rfl⟩ := hv
    exact .inr ⟨_, _, _, _, _, _, rfl, rfl, rfl, by decide, d.a, _, _, _, _, rfl, List.mem_append_right _ (hds d (List.mem_of_getElem? hd)), rfl, rfl⟩
  case turn =>
    rintro i v ys c I oI C oC D m₂ h tk E' hv ⟨rfl, hP⟩ hn hb F₁ N₁ off ⟨ne1, ne2, ne3⟩
    clear lF lN
    simp only [optR, List.getElem?_map, Option.map_eq_some_iff] at hv
    obtain ⟨d, hd, rfl⟩ := hv
    have hm : d.ent ∈ optL c ++ news := List.mem_append_right _ (hds d (List.mem_of_getElem? hd))
    obtain ⟨hx1, hx2⟩ := od_bnd (news_sub N₁ fun p hp => by simp [hp]) hm hb
    have e := take_succ_filter (fun q : Int × List Int => decide (128 ≤ q.1)) (optsOf ds) i (d.k, BI d.b) (by simp [optsOf, hd])
    dsimp only [CBody]
    k_steps
    · rename Fr _ _ _ _ => F'
      rename News _ _ _ _ => N'
      rename (I < _ ∧ _) => zl
      obtain ⟨z1, z2, z3, z4⟩ := zl
      refine cend (optL (c ++ [⟨_, d.k, d.kt, d.b, d.bt⟩]) ++ news) F' N' (fun p hp => ?_) (fun p hp => ?_) ⟨c ++ [⟨_, d.k, d.kt, d.b, d.bt⟩], rfl, by rw [optR_snoc], by rw [optsOf_snoc, e, hP, if_pos (by simpa using by lia)]⟩
      · simp only [List.mem_cons] at hp ⊢
        rcases hp with hp | hp | hp | hp
        · exact .inr (.inl hp)
        · exact .inr (.inr (.inl hp))
        · exact .inr (.inr (.inr (.inl hp)))
        · exact (mem_snoc hp).elim .inl fun h => .inr (.inr (.inr (.inr h)))
      · rcases mem_snoc hp with rfl | hp
        · exact ⟨Nat.ne_of_gt z1, Nat.ne_of_gt z2, Nat.ne_of_gt z3⟩
        · exact off p hp
    · rename Fr _ _ _ _ => F'
      rename News _ _ _ _ => N'
      exact cend (optL c ++ news) F' N' (fun p hp => hp) off ⟨c, rfl, rfl, by rw [e, hP, if_neg (by simpa using by lia), List.append_nil]⟩
  case done =>
    rintro D ys c h tk ⟨rfl, hP⟩ F₁ N₁ off
    clear lF lN
    rw [optR_length, show ds.length = (optsOf ds).length from by simp [optsOf], List.take_length] at hP
    k_steps
    ((try with_reducible refine hnx _ ?_); exact hret _ _ _ _ ⟨_, c, _, rfl, rfl, hP, off⟩ (by k_asm) (by k_asm))
end copied_c_
theorem copied_c (w : World) (la : Addr) (ds : List OD) (n : Nat) (news : Led) (hla : (la, listOf (optR ds).toArray n) ∈ news) (hds : ∀ d ∈ ds, d.ent ∈ news) (hlen : ds.length ≤ 1000)  : Con w (.ref 297) [.ref la] 4 news (fun r N => ∃ lb ds' n', r = .ref lb ∧ N = (lb, listOf (optR ds').toArray n') :: (optL ds' ++ news) ∧ optsOf ds' = (optsOf ds).filter (fun q => decide (128 ≤ q.1)) ∧ ∀ p ∈ optL ds' ++ news, p.1 ≠ lb) := by
  refine' BodK.con ?ho ?hcd ?hb ?hq ?hloc ?hco ?hgen ?hk ?hcell ?hD (fun F9 => @wit_all _ (fra0, wrl0, 0, [], 0, []) copied_c_S (by with_unfolding_all exact copied_c_.run) (F9, w, la, ds, n, news) hla hds hlen); (case ho => k_is); (case hcd => k_is); (case hb => first | (dsimp only [List.map, List.zip, List.zipWith]; done) | (dsimp only [List.map, List.zip, List.zipWith]; exact rfl)); (case hq => first | exact fun _ _ => BindsTo.of_eq rfl | (intro s7 X7; exact binds_K X7 rfl (by k_is) rfl rfl rfl)); (case hloc => exact locs rfl); (case hco => exact rfl); (case hgen => exact rfl); (case hk => exact rfl); (case hcell => decide); (case hD => decide)

theorem copied_c_k (w : World) (la : Addr) (ds : List OD) (n : Nat) (news : Led) (hla : (la, listOf (optR ds).toArray n) ∈ news) (hds : ∀ d ∈ ds, d.ent ∈ news) (hlen : ds.length ≤ 1000)  :
   Kon w (.ref 297) [.ref la] 4 news (fun K9 => ∀ lb ds' n', (optsOf ds' = (optsOf ds).filter (fun q => decide (128 ≤ q.1))) → (∀ p ∈ optL ds' ++ news, p.1 ≠ lb) → K9 (.ref lb) ((lb, listOf (optR ds').toArray n') :: (optL ds' ++ news)))  :=
  Con.kon (copied_c w la ds n news hla hds hlen) (by
    rintro K9 g9 r9 N9 ⟨v0, v1, v2, rfl, rfl, v3, v4⟩
    exact g9 v0 v1 v2 v3 v4)
theorem reg_p12_3 : True := by
  k_with "call ref" => (k_here; (with_reducible show wpAny _ _ (call (Value.ref 297) _) _ _ _); k_dflt (refine' Kon.go ?_ ?_ ?_ ?_ ?_ ?_ ?_ ?_ ?_ ?_; walk_at "side 0"; (any_goals ((with_reducible show Kon _ _ _ _ _ _); exact (copied_c_k _ _ _ _ _ (by k_mem) (by first | assumption | (intro _ hd; repeat (first | exact List.mem_append_left _ (mem_optL hd) | refine List.mem_cons_of_mem _ ?_ | refine List.mem_append_right _ ?_))) (by lia)))); walk_at "side 9"); intro _ _ _ _ _ _ _ _ _)
  trivial
noncomputable def copied_octets_c_S (z : Fra × World × Array UInt8 × TC × List Int × Led) : Prop :=
  (fun (F9 : Fra) (w : World) (b : Array UInt8) (tb : TC) (ks : List Int) (news : Led) => ∀ (l : List (Int × List Int)), ∀ (hb : BI b = ks), ∀ (hl : ks.length ≤ 500), ∀ (hr : rdAll ks = some l), ∀ (hok : ∀ q ∈ l, optOk q), ∀ (hlen : (rawO (l.filter (fun q => decide (128 ≤ q.1)))).length ≤ 40), BodK w 304 [.bytes b tb] 9 news (fun r N => N = news ∧ ∃ b t, r = .bytes b t ∧ BI b = wrO (l.filter (fun q => decide (128 ≤ q.1)))) F9) (z.1) (z.2.1) (z.2.2.1) (z.2.2.2.1) (z.2.2.2.2.1) (z.2.2.2.2.2)
@[irreducible] noncomputable def copied_octets_c_z : Fra × World × Array UInt8 × TC × List Int × Led := wit (fra0, wrl0, #[], 0, [], []) copied_octets_c_S
namespace copied_octets_c_
@[irreducible] noncomputable def F9 : Fra := copied_octets_c_z.1
@[irreducible] noncomputable def w : World := copied_octets_c_z.2.1
@[irreducible] noncomputable def b : Array UInt8 := copied_octets_c_z.2.2.1
@[irreducible] noncomputable def tb : TC := copied_octets_c_z.2.2.2.1
@[irreducible] noncomputable def ks : List Int := copied_octets_c_z.2.2.2.2.1
@[irreducible] noncomputable def news : Led := copied_octets_c_z.2.2.2.2.2
theorem run : ∀ (l : List (Int × List Int)), ∀ (hb : BI b = ks), ∀ (hl : ks.length ≤ 500), ∀ (hr : rdAll ks = some l), ∀ (hok : ∀ q ∈ l, optOk q), ∀ (hlen : (rawO (l.filter (fun q => decide (128 ≤ q.1)))).length ≤ 40), BodK w 304 [.bytes b tb] 9 news (fun r N => N = news ∧ ∃ b t, r = .bytes b t ∧ BI b = wrO (l.filter (fun q => decide (128 ≤ q.1)))) F9 := by
  intro l hb hl hr hok hlen
  refine' BodK.enter ?ho ?hb ?_; (case ho => k_is); (case hb => first | (dsimp only [List.map, List.zip, List.zipWith]; done) | (dsimp only [List.map, List.zip, List.zipWith]; exact rfl))
  intro B' F' X' N' T' hd hu hPE hnx hret
  k_steps
  · rename (rdAll ks = none) => hz
    rw [hr] at hz; cases hz
  rename (rdAll ks = some _) => hz
  rw [hr] at hz
  obtain rfl := Option.some.inj hz
  rename (optsOf _ = List.filter _ _) => hf
  rw [← hf] at hlen
  have hok2 := ok_of hf hok
  k_steps
  rename (BI _ = wrO _) => hW
  ((try with_reducible refine hnx _ ?_); exact hret _ _ _ _ ⟨rfl, _, _, rfl, by rw [← hf]; exact hW⟩ (by k_asm) (by first | k_asm | exact news_subL (by assumption) (by k_extra "sub") | exact news_sub (by assumption) (by intro p hp; (try simp only [List.mem_cons, List.mem_append] at hp ⊢); grind)))
end copied_octets_c_
theorem copied_octets_c (w : World) (b : Array UInt8) (tb : TC) (ks : List Int) (l : List (Int × List Int)) (news : Led) (hb : BI b = ks) (hl : ks.length ≤ 500) (hr : rdAll ks = some l) (hok : ∀ q ∈ l, optOk q) (hlen : (rawO (l.filter (fun q => decide (128 ≤ q.1)))).length ≤ 40)  : Con w (.ref 304) [.bytes b tb] 9 news (fun r N => N = news ∧ ∃ b t, r = .bytes b t ∧ BI b = wrO (l.filter (fun q => decide (128 ≤ q.1)))) := by
  refine' BodK.con ?ho ?hcd ?hb ?hq ?hloc ?hco ?hgen ?hk ?hcell ?hD (fun F9 => @wit_all _ (fra0, wrl0, #[], 0, [], []) copied_octets_c_S (by with_unfolding_all exact copied_octets_c_.run) (F9, w, b, tb, ks, news) l hb hl hr hok hlen); (case ho => k_is); (case hcd => k_is); (case hb => first | (dsimp only [List.map, List.zip, List.zipWith]; done) | (dsimp only [List.map, List.zip, List.zipWith]; exact rfl)); (case hq => first | exact fun _ _ => BindsTo.of_eq rfl | (intro s7 X7; exact binds_K X7 rfl (by k_is) rfl rfl rfl)); (case hloc => exact locs rfl); (case hco => exact rfl); (case hgen => exact rfl); (case hk => exact rfl); (case hcell => decide); (case hD => decide)

theorem copied_octets_c_k (w : World) (b : Array UInt8) (tb : TC) (ks : List Int) (l : List (Int × List Int)) (news : Led) (hb : BI b = ks) (hl : ks.length ≤ 500) (hr : rdAll ks = some l) (hok : ∀ q ∈ l, optOk q) (hlen : (rawO (l.filter (fun q => decide (128 ≤ q.1)))).length ≤ 40)  :
   Kon w (.ref 304) [.bytes b tb] 9 news (fun K9 => ∀ b t, (BI b = wrO (l.filter (fun q => decide (128 ≤ q.1)))) → K9 (.bytes b t) (news))  :=
  Con.kon (copied_octets_c w b tb ks l news hb hl hr hok hlen) (by
    rintro K9 g9 r9 N9 ⟨rfl, v0, v1, rfl, v2⟩
    exact g9 v0 v1 v2)
theorem reg_p12_4 : True := by
  k_with "call ref" => (k_here; (with_reducible show wpAny _ _ (call (Value.ref 304) _) _ _ _); k_dflt (refine' Kon.go ?_ ?_ ?_ ?_ ?_ ?_ ?_ ?_ ?_ ?_; walk_at "side 0"; (any_goals ((with_reducible show Kon _ _ _ _ _ _); exact (copied_octets_c_k _ _ _ _ _ _ (by assumption) (by kba_size) (by assumption) (by assumption) (by assumption)))); walk_at "side 9"); intro _ _ _ _ _ _ _)
  trivial

/-! records of the way -/
noncomputable def new_record_c_S (z : Fra × World × Int × TC × Led) : Prop :=
  (fun (F9 : Fra) (w : World) (n : Int) (t : TC) (news : Led) => ∀ (h0 : 0 ≤ n), ∀ (h1 : n ≤ 100), BodK w 311 [.int n t] 3 news (fun r N => N = news ∧ ∃ b t, r = .bytes b t ∧ BI b = [4] ++ List.replicate (4 * n).toNat 0) F9) (z.1) (z.2.1) (z.2.2.1) (z.2.2.2.1) (z.2.2.2.2)
@[irreducible] noncomputable def new_record_c_z : Fra × World × Int × TC × Led := wit (fra0, wrl0, 0, 0, []) new_record_c_S
namespace new_record_c_
@[irreducible] noncomputable def F9 : Fra := new_record_c_z.1
@[irreducible] noncomputable def w : World := new_record_c_z.2.1
@[irreducible] noncomputable def n : Int := new_record_c_z.2.2.1
@[irreducible] noncomputable def t : TC := new_record_c_z.2.2.2.1
@[irreducible] noncomputable def news : Led := new_record_c_z.2.2.2.2
theorem run : ∀ (h0 : 0 ≤ n), ∀ (h1 : n ≤ 100), BodK w 311 [.int n t] 3 news (fun r N => N = news ∧ ∃ b t, r = .bytes b t ∧ BI b = [4] ++ List.replicate (4 * n).toNat 0) F9 := by
  intro h0 h1
  refine' BodK.enter ?ho ?hb ?_; (case ho => k_is); (case hb => first | (dsimp only [List.map, List.zip, List.zipWith]; done) | (dsimp only [List.map, List.zip, List.zipWith]; exact rfl))
  intro B' F' X' N' T' hd hu hPE hnx hret
  k_steps
  rename (BI _ = [_] ++ _) => hW
  ((try with_reducible refine hnx _ ?_); exact hret _ _ _ _ ⟨rfl, _, _, rfl, hW⟩ (by k_asm) (by first | k_asm | exact news_subL (by assumption) (by k_extra "sub") | exact news_sub (by assumption) (by intro p hp; (try simp only [List.mem_cons, List.mem_append] at hp ⊢); grind)))
end new_record_c_
theorem new_record_c (w : World) (n : Int) (t : TC) (news : Led) (h0 : 0 ≤ n) (h1 : n ≤ 100)  : Con w (.ref 311) [.int n t] 3 news (fun r N => N = news ∧ ∃ b t, r = .bytes b t ∧ BI b = [4] ++ List.replicate (4 * n).toNat 0) := by
  refine' BodK.con ?ho ?hcd ?hb ?hq ?hloc ?hco ?hgen ?hk ?hcell ?hD (fun F9 => @wit_all _ (fra0, wrl0, 0, 0, []) new_record_c_S (by with_unfolding_all exact new_record_c_.run) (F9, w, n, t, news) h0 h1); (case ho => k_is); (case hcd => k_is); (case hb => first | (dsimp only [List.map, List.zip, List.zipWith]; done) | (dsimp only [List.map, List.zip, List.zipWith]; exact rfl)); (case hq => first | exact fun _ _ => BindsTo.of_eq rfl | (intro s7 X7; exact binds_K X7 rfl (by k_is) rfl rfl rfl)); (case hloc => exact locs rfl); (case hco => exact rfl); (case hgen => exact rfl); (case hk => exact rfl); (case hcell => decide); (case hD => decide)

theorem new_record_c_k (w : World) (n : Int) (t : TC) (news : Led) (h0 : 0 ≤ n) (h1 : n ≤ 100)  :
   Kon w (.ref 311) [.int n t] 3 news (fun K9 => ∀ b t, (BI b = [4] ++ List.replicate (4 * n).toNat 0) → K9 (.bytes b t) (news))  :=
  Con.kon (new_record_c w n t news h0 h1) (by
    rintro K9 g9 r9 N9 ⟨rfl, v0, v1, rfl, v2⟩
    exact g9 v0 v1 v2)
theorem reg_p13_0 : True := by
  k_with "call ref" => (k_here; (with_reducible show wpAny _ _ (call (Value.ref 311) _) _ _ _); k_dflt (refine' Kon.go ?_ ?_ ?_ ?_ ?_ ?_ ?_ ?_ ?_ ?_; walk_at "side 0"; (any_goals ((with_reducible show Kon _ _ _ _ _ _); exact (new_record_c_k _ _ _ _ (by lia) (by lia)))); walk_at "side 9"); intro _ _ _ _ _ _ _)
  trivial
noncomputable def ptrGood (ks : List Int) : Prop := 1 ≤ ks.length ∧ 4 ≤ ks.getD 0 0
noncomputable def pointer_place_c_S (z : Fra × World × Array UInt8 × TC × List Int × Led) : Prop :=
  (fun (F9 : Fra) (w : World) (b : Array UInt8) (bt : TC) (ks : List Int) (news : Led) => ∀ (hb : BI b = ks), ∀ (hl : ks.length ≤ 100000), BodKR w 318 [.bytes b bt] 5 news (fun r N => N = news ∧ ∃ t, r = .int (ks.getD 0 0 - 3) t ∧ ptrGood ks) 51 (¬ ptrGood ks) F9) (z.1) (z.2.1) (z.2.2.1) (z.2.2.2.1) (z.2.2.2.2.1) (z.2.2.2.2.2)
@[irreducible] noncomputable def pointer_place_c_z : Fra × World × Array UInt8 × TC × List Int × Led := wit (fra0, wrl0, #[], 0, [], []) pointer_place_c_S
namespace pointer_place_c_
@[irreducible] noncomputable def F9 : Fra := pointer_place_c_z.1
@[irreducible] noncomputable def w : World := pointer_place_c_z.2.1
@[irreducible] noncomputable def b : Array UInt8 := pointer_place_c_z.2.2.1
@[irreducible] noncomputable def bt : TC := pointer_place_c_z.2.2.2.1
@[irreducible] noncomputable def ks : List Int := pointer_place_c_z.2.2.2.2.1
@[irreducible] noncomputable def news : Led := pointer_place_c_z.2.2.2.2.2
theorem run : ∀ (hb : BI b = ks), ∀ (hl : ks.length ≤ 100000), BodKR w 318 [.bytes b bt] 5 news (fun r N => N = news ∧ ∃ t, r = .int (ks.getD 0 0 - 3) t ∧ ptrGood ks) 51 (¬ ptrGood ks) F9 := by
  intro hb hl
  have hB := inB_of hb
  have i1 := getD_inB hB 0
  have he : BI #[] = [] := rfl
  have hz : ks = [] → ks.length = 0 := fun h => by rw [h]; rfl
  have hy : ks.length = 0 → ks = [] := List.eq_nil_of_length_eq_zero
  refine' BodKR.enter ?ho ?hb ?_; (case ho => k_is); (case hb => first | (dsimp only [List.map, List.zip, List.zipWith]; done) | (dsimp only [List.map, List.zip, List.zipWith]; exact rfl))
  intro B' F' X' N' T' hd hu hPE hnx hret hexa hexb
  k_steps
  all_goals first
    | (first | (refine' hexa _ _ _ _ ?bad ?FG ?N ?X ?ne ?sub; (case N => k_asm); (case X => assumption); (case FG => k_asm); (case ne => assumption); (case sub => (first | exact fun _ hp => hp | exact (show SubL _ _ by k_extra "sub") | (intro p hp; simp only [List.mem_cons, List.mem_append, hp, or_true, true_or]))); (case bad => unfold ptrGood; lia)) | (refine' hexb _ _ _ _ ?bad ?FG ?R ?U ?sub; (case R => assumption); (case FG => assumption); (case U => assumption); (case sub => (first | exact fun _ hp => hp | exact (show SubL _ _ by k_extra "sub") | (intro p hp; simp only [List.mem_cons, List.mem_append, hp, or_true, true_or]))); (case bad => unfold ptrGood; lia)))
    | ((try with_reducible refine hnx _ ?_); exact hret _ _ _ _ ⟨rfl, _, congrArg (fun z => Value.int z _) (by lia), by unfold ptrGood; lia⟩ (by k_asm) (by first | k_asm | exact news_subL (by assumption) (by k_extra "sub") | exact news_sub (by assumption) (by intro p hp; (try simp only [List.mem_cons, List.mem_append] at hp ⊢); grind)))
end pointer_place_c_
theorem pointer_place_c (w : World) (b : Array UInt8) (bt : TC) (ks : List Int) (news : Led) (hb : BI b = ks) (hl : ks.length ≤ 100000)  : ConR w (.ref 318) [.bytes b bt] 5 news (fun r N => N = news ∧ ∃ t, r = .int (ks.getD 0 0 - 3) t ∧ ptrGood ks) 51 (¬ ptrGood ks) := by
  refine' BodKR.con ?ho ?hcd ?hb ?hq ?hloc ?hco ?hgen ?hk ?hcell ?hD (fun F9 => @wit_all _ (fra0, wrl0, #[], 0, [], []) pointer_place_c_S (by with_unfolding_all exact pointer_place_c_.run) (F9, w, b, bt, ks, news) hb hl); (case ho => k_is); (case hcd => k_is); (case hb => first | (dsimp only [List.map, List.zip, List.zipWith]; done) | (dsimp only [List.map, List.zip, List.zipWith]; exact rfl)); (case hq => first | exact fun _ _ => BindsTo.of_eq rfl | (intro s7 X7; exact binds_K X7 rfl (by k_is) rfl rfl rfl)); (case hloc => exact locs rfl); (case hco => exact rfl); (case hgen => exact rfl); (case hk => exact rfl); (case hcell => decide); (case hD => decide)

theorem pointer_place_c_k (w : World) (b : Array UInt8) (bt : TC) (ks : List Int) (news : Led) (hb : BI b = ks) (hl : ks.length ≤ 100000)  :
   KonR w (.ref 318) [.bytes b bt] 5 news (fun K9 => ∀ t, (ptrGood ks) → K9 (.int (ks.getD 0 0 - 3) t) (news)) 51 (¬ ptrGood ks) :=
  ConR.kon (pointer_place_c w b bt ks news hb hl) (by
    rintro K9 g9 r9 N9 ⟨rfl, v0, rfl, v1⟩
    exact g9 v0 v1)
theorem reg_p13_1 : True := by
  k_with "call ref" => (k_here; (with_reducible show wpAny _ _ (call (Value.ref 318) _) _ _ _); k_dflt (refine' KonR.go ?_ ?_ ?_ ?_ ?_ ?_ ?_ ?_ ?_ ?_ ?_; walk_at "side 0"; (any_goals ((with_reducible show KonR _ _ _ _ _ _ _ _); exact (pointer_place_c_k _ _ _ _ _ (by assumption) (by kba_size)))); walk_at "side 9"; intro _ _ _ _ hS' _; (have hS2' := hS'; obtain ⟨hg1', hg2'⟩ := hS2'); rotate_left 1; intro _ _ _ _ _ _ _ _; (try dsimp only)))
  trivial
noncomputable def recO (ks : List Int) (a : Int) : List Int :=
  if (ks.length : Int) < ks.getD 0 0 + 1 then ks else [ks.getD 0 0 + 4] ++ (ks.drop 1).take ((ks.getD 0 0 - 3).toNat - 1) ++ w32 a ++ ks.drop (ks.getD 0 0 + 1).toNat
noncomputable def record_route_c_S (z : Fra × World × Array UInt8 × TC × List Int × Int × TC × Led) : Prop :=
  (fun (F9 : Fra) (w : World) (b : Array UInt8) (bt : TC) (ks : List Int) (a : Int) (ta : TC) (news : Led) => ∀ (hb : BI b = ks), ∀ (hl : ks.length ≤ 250), BodKR w 325 [.bytes b bt, .int a ta] 7 news (fun r N => N = news ∧ ∃ b t, r = .bytes b t ∧ BI b = recO ks a ∧ ptrGood ks) 51 (¬ ptrGood ks) F9) (z.1) (z.2.1) (z.2.2.1) (z.2.2.2.1) (z.2.2.2.2.1) (z.2.2.2.2.2.1) (z.2.2.2.2.2.2.1) (z.2.2.2.2.2.2.2)
@[irreducible] noncomputable def record_route_c_z : Fra × World × Array UInt8 × TC × List Int × Int × TC × Led := wit (fra0, wrl0, #[], 0, [], 0, 0, []) record_route_c_S
namespace record_route_c_
@[irreducible] noncomputable def F9 : Fra := record_route_c_z.1
@[irreducible] noncomputable def w : World := record_route_c_z.2.1
@[irreducible] noncomputable def b : Array UInt8 := record_route_c_z.2.2.1
@[irreducible] noncomputable def bt : TC := record_route_c_z.2.2.2.1
@[irreducible] noncomputable def ks : List Int := record_route_c_z.2.2.2.2.1
@[irreducible] noncomputable def a : Int := record_route_c_z.2.2.2.2.2.1
@[irreducible] noncomputable def ta : TC := record_route_c_z.2.2.2.2.2.2.1
@[irreducible] noncomputable def news : Led := record_route_c_z.2.2.2.2.2.2.2
theorem run : ∀ (hb : BI b = ks), ∀ (hl : ks.length ≤ 250), BodKR w 325 [.bytes b bt, .int a ta] 7 news (fun r N => N = news ∧ ∃ b t, r = .bytes b t ∧ BI b = recO ks a ∧ ptrGood ks) 51 (¬ ptrGood ks) F9 := by
  intro hb hl
  have hB := inB_of hb
  have i1 := getD_inB hB 0
  refine' BodKR.enter ?ho ?hb ?_; (case ho => k_is); (case hb => first | (dsimp only [List.map, List.zip, List.zipWith]; done) | (dsimp only [List.map, List.zip, List.zipWith]; exact rfl))
  intro B' F' X' N' T' hd hu hPE hnx hret hexa hexb
  k_steps
  · (first | (refine' hexa _ _ _ _ ?bad ?FG ?N ?X ?ne ?sub; (case N => k_asm); (case X => assumption); (case FG => k_asm); (case ne => assumption); (case sub => (first | exact fun _ hp => hp | exact (show SubL _ _ by k_extra "sub") | (intro p hp; simp only [List.mem_cons, List.mem_append, hp, or_true, true_or]))); (case bad => assumption)) | (refine' hexb _ _ _ _ ?bad ?FG ?R ?U ?sub; (case R => assumption); (case FG => assumption); (case U => assumption); (case sub => (first | exact fun _ hp => hp | exact (show SubL _ _ by k_extra "sub") | (intro p hp; simp only [List.mem_cons, List.mem_append, hp, or_true, true_or]))); (case bad => assumption)))
  · ((try with_reducible refine hnx _ ?_); exact hret _ _ _ _ ⟨rfl, _, _, rfl, by unfold recO; rw [if_pos (by lia)]; exact hb, by assumption⟩ (by k_asm) (by first | k_asm | exact news_subL (by assumption) (by k_extra "sub") | exact news_sub (by assumption) (by intro p hp; (try simp only [List.mem_cons, List.mem_append] at hp ⊢); grind)))
  · rename (BI _ = _ ++ List.drop _ _) => hR
    ((try with_reducible refine hnx _ ?_); exact hret _ _ _ _ ⟨rfl, _, _, rfl, by rw [hR]; unfold recO; rw [if_neg (by lia), show ks.getD 0 0 - 3 + 4 = ks.getD 0 0 + 1 from by lia], by assumption⟩ (by k_asm) (by first | k_asm | exact news_subL (by assumption) (by k_extra "sub") | exact news_sub (by assumption) (by intro p hp; (try simp only [List.mem_cons, List.mem_append] at hp ⊢); grind)))
end record_route_c_
theorem record_route_c (w : World) (b : Array UInt8) (bt : TC) (ks : List Int) (a : Int) (ta : TC) (news : Led) (hb : BI b = ks) (hl : ks.length ≤ 250)  : ConR w (.ref 325) [.bytes b bt, .int a ta] 7 news (fun r N => N = news ∧ ∃ b t, r = .bytes b t ∧ BI b = recO ks a ∧ ptrGood ks) 51 (¬ ptrGood ks) := by
  refine' BodKR.con ?ho ?hcd ?hb ?hq ?hloc ?hco ?hgen ?hk ?hcell ?hD (fun F9 => @wit_all _ (fra0, wrl0, #[], 0, [], 0, 0, []) record_route_c_S (by with_unfolding_all exact record_route_c_.run) (F9, w, b, bt, ks, a, ta, news) hb hl); (case ho => k_is); (case hcd => k_is); (case hb => first | (dsimp only [List.map, List.zip, List.zipWith]; done) | (dsimp only [List.map, List.zip, List.zipWith]; exact rfl)); (case hq => first | exact fun _ _ => BindsTo.of_eq rfl | (intro s7 X7; exact binds_K X7 rfl (by k_is) rfl rfl rfl)); (case hloc => exact locs rfl); (case hco => exact rfl); (case hgen => exact rfl); (case hk => exact rfl); (case hcell => decide); (case hD => decide)

theorem record_route_c_k (w : World) (b : Array UInt8) (bt : TC) (ks : List Int) (a : Int) (ta : TC) (news : Led) (hb : BI b = ks) (hl : ks.length ≤ 250)  :
   KonR w (.ref 325) [.bytes b bt, .int a ta] 7 news (fun K9 => ∀ b t, (BI b = recO ks a) → (ptrGood ks) → K9 (.bytes b t) (news)) 51 (¬ ptrGood ks) :=
  ConR.kon (record_route_c w b bt ks a ta news hb hl) (by
    rintro K9 g9 r9 N9 ⟨rfl, v0, v1, rfl, v2, v3⟩
    exact g9 v0 v1 v2 v3)
theorem reg_p13_2 : True := by
  k_with "call ref" => (k_here; (with_reducible show wpAny _ _ (call (Value.ref 325) _) _ _ _); k_dflt (refine' KonR.go ?_ ?_ ?_ ?_ ?_ ?_ ?_ ?_ ?_ ?_ ?_; walk_at "side 0"; (any_goals ((with_reducible show KonR _ _ _ _ _ _ _ _); exact (record_route_c_k _ _ _ _ _ _ _ (by assumption) (by kba_size)))); walk_at "side 9"; intro _ _ _ _ _ _ hS' _; (have hS2' := hS'; obtain ⟨hg1', hg2'⟩ := hS2'); rotate_left 1; intro _ _ _ _ _ _ _ _; (try dsimp only)))
  trivial
noncomputable def recN (ks : List Int) : Nat := ((min (ks.getD 0 0 - 3) (ks.length : Int) - 1) / 4).toNat
theorem ints_snoc {vs : List Value} {ns : List Int} {n : Int} {t : TC} (h : IntsAre vs ns) : IntsAre (vs ++ [.int n t]) (ns ++ [n]) := IntsAre.append h (.cons _ _ .nil)
theorem range_snoc (f : Nat → Int) (i : Nat) : (List.range (i + 1)).map f = (List.range i).map f ++ [f i] := by rw [List.range_succ, List.map_append]; rfl
noncomputable def recL (ks : List Int) : List Int := (List.range (recN ks)).map fun i => g16 ks (1 + 4 * i) * 65536 + g16 ks (3 + 4 * i)
noncomputable def recorded_c_S (z : Fra × World × Array UInt8 × TC × List Int × Led) : Prop :=
  (fun (F9 : Fra) (w : World) (b : Array UInt8) (bt : TC) (ks : List Int) (news : Led) => ∀ (hb : BI b = ks), ∀ (hl : ks.length ≤ 250), ∀ (hp : ptrGood ks), BodKC w 330 [.bytes b bt] (Str.ofString "octets")  7 news (fun r N => ∃ lb vs n, r = .ref lb ∧ N = (lb, listOf vs.toArray n) :: news ∧ IntsAre vs (recL ks) ∧ ∀ p ∈ news, p.1 ≠ lb) F9) (z.1) (z.2.1) (z.2.2.1) (z.2.2.2.1) (z.2.2.2.2.1) (z.2.2.2.2.2)
@[irreducible] noncomputable def recorded_c_z : Fra × World × Array UInt8 × TC × List Int × Led := wit (fra0, wrl0, #[], 0, [], []) recorded_c_S
namespace recorded_c_
@[irreducible] noncomputable def F9 : Fra := recorded_c_z.1
@[irreducible] noncomputable def w : World := recorded_c_z.2.1
@[irreducible] noncomputable def b : Array UInt8 := recorded_c_z.2.2.1
@[irreducible] noncomputable def bt : TC := recorded_c_z.2.2.2.1
@[irreducible] noncomputable def ks : List Int := recorded_c_z.2.2.2.2.1
@[irreducible] noncomputable def news : Led := recorded_c_z.2.2.2.2.2
theorem run : ∀ (hb : BI b = ks), ∀ (hl : ks.length ≤ 250), ∀ (hp : ptrGood ks), BodKC w 330 [.bytes b bt] (Str.ofString "octets")  7 news (fun r N => ∃ lb vs n, r = .ref lb ∧ N = (lb, listOf vs.toArray n) :: news ∧ IntsAre vs (recL ks) ∧ ∀ p ∈ news, p.1 ≠ lb) F9 := by
  intro hb hl hp
  have hB := inB_of hb
  have i1 := getD_inB hB 0
  obtain ⟨p1, p2⟩ := hp
  refine' BodKC.enter ?ho ?hb ?_; (case ho => k_is); (case hb => first | (dsimp only [List.map, List.zip, List.zipWith]; done) | (dsimp only [List.map, List.zip, List.zipWith]; exact rfl))
  intro B' F' X' N' dc' T' hd hu l1 hPE hnx hret; (try k_lt l1)
  k_steps
  · exact absurd (show ptrGood ks from ⟨p1, p2⟩) (by assumption)
  rename IsRange _ _ _ _ _ _ _ _ => rg
  rename Fr _ _ _ _ => lF
  rename News _ _ _ _ => lN
  have hE : (if (ks.length : Int) < ks.getD 0 0 - 3 then (ks.length : Int) else ks.getD 0 0 - 3) = min (ks.getD 0 0 - 3) (ks.length : Int) := by
    split
    · exact (Int.min_eq_right (Int.le_of_lt (by assumption))).symm
    · exact (Int.min_eq_left (Int.not_lt.mp (by assumption))).symm
  obtain ⟨e, he⟩ : ∃ e, e = min (ks.getD 0 0 - 3) (ks.length : Int) := ⟨_, rfl⟩
  have e0 : 1 ≤ e := he ▸ Int.le_min.mpr ⟨by lia, by lia⟩
  have e1 : e ≤ ks.length := he ▸ Int.min_le_right ..
  rw [hE, ← he] at rg
  have hN : (recN ks : Int) = (e - 1) / 4 := by unfold recN; rw [← he]; exact Int.toNat_of_nonneg (Int.ediv_nonneg (by lia) (by decide))
  clear he hE
  refine comp_range (σ := Unit) (n := recN ks) (fun _ => _ :: news) (fun i ys _ => IntsAre ys ((List.range i).map fun i => g16 ks (1 + 4 * i) * 65536 + g16 ks (3 + 4 * i))) () rfl rg (small_pos (by lia) (by lia) (by lia) (by lia) (by lia) (by lia)) (rangeSize_posN (by lia) (by lia)) lF lN (by rw [sizeLine_eq]; lia) (by decide) rfl rfl .nil ?turn ?done
  case turn =>
    rintro i t ys c I oI C oC D m₂ h tk E' hi hP hn hx1 F₁ N₁ off ⟨ne1, ne2, ne3⟩
    clear lF lN
    dsimp only [CBody]
    k_steps
    rename Fr _ _ _ _ => F'
    rename News _ _ _ _ => N'
    refine cend (_ :: news) F' N' (fun p hp => hp) off ⟨(), rfl, ?_⟩
    rw [range_snoc, show 1 + 4 * i = (1 + (i : Int) * 4).toNat from by lia, show 3 + 4 * i = (1 + (i : Int) * 4).toNat + 2 from by lia]
    exact ints_snoc hP
  case done =>
    rintro D ys c h tk hP F₁ N₁ off
    clear lF lN
    k_steps
    ((try with_reducible refine hnx _ ?_); exact hret _ _ _ _ ⟨_, ys, ys.length, rfl, rfl, hP, fun p hp => off p (.tail _ hp)⟩ (by k_asm) (by first | k_asm | exact news_subL (by assumption) (by k_extra "sub") | exact news_sub (by assumption) (by intro p hp; (try simp only [List.mem_cons, List.mem_append] at hp ⊢); grind)))
end recorded_c_
theorem recorded_c (w : World) (b : Array UInt8) (bt : TC) (ks : List Int) (news : Led) (hb : BI b = ks) (hl : ks.length ≤ 250) (hp : ptrGood ks)  : Con w (.ref 330) [.bytes b bt] 7 news (fun r N => ∃ lb vs n, r = .ref lb ∧ N = (lb, listOf vs.toArray n) :: news ∧ IntsAre vs (recL ks) ∧ ∀ p ∈ news, p.1 ≠ lb) := by
  refine' BodKC.con ?ho ?hcd ?hb ?hq ?hloc ?hcl ?hnd ?hco ?hgen ?hk ?hD (fun F9 => @wit_all _ (fra0, wrl0, #[], 0, [], []) recorded_c_S (by with_unfolding_all exact recorded_c_.run) (F9, w, b, bt, ks, news) hb hl hp); (case ho => k_is); (case hcd => k_is); (case hb => first | (dsimp only [List.map, List.zip, List.zipWith]; done) | (dsimp only [List.map, List.zip, List.zipWith]; exact rfl)); (case hq => first | exact fun _ _ => BindsTo.of_eq rfl | (intro s7 X7; exact binds_K X7 rfl (by k_is) rfl rfl rfl)); (case hloc => exact rfl); (case hcl => exact fun _ => rfl); (case hnd => decide +kernel); (case hco => exact rfl); (case hgen => exact rfl); (case hk => exact rfl); (case hD => decide)

theorem recorded_c_k (w : World) (b : Array UInt8) (bt : TC) (ks : List Int) (news : Led) (hb : BI b = ks) (hl : ks.length ≤ 250) (hp : ptrGood ks)  :
   Kon w (.ref 330) [.bytes b bt] 7 news (fun K9 => ∀ lb vs n, (IntsAre vs (recL ks)) → (∀ p ∈ news, p.1 ≠ lb) → K9 (.ref lb) ((lb, listOf vs.toArray n) :: news))  :=
  Con.kon (recorded_c w b bt ks news hb hl hp) (by
    rintro K9 g9 r9 N9 ⟨v0, v1, v2, rfl, rfl, v3, v4⟩
    exact g9 v0 v1 v2 v3 v4)
theorem reg_p13_3 : True := by
  k_with "call ref" => (k_here; (with_reducible show wpAny _ _ (call (Value.ref 330) _) _ _ _); k_dflt (refine' Kon.go ?_ ?_ ?_ ?_ ?_ ?_ ?_ ?_ ?_ ?_; walk_at "side 0"; (any_goals ((with_reducible show Kon _ _ _ _ _ _); exact (recorded_c_k _ _ _ _ _ (by assumption) (by kba_size) (by assumption)))); walk_at "side 9"); intro _ _ _ _ _ _ _ _ _)
  trivial

/-! record_in, next_on_way -/
noncomputable def g32 (ks : List Int) (i : Nat) : Int := g16 ks i * 65536 + g16 ks (i + 2)
noncomputable def next_on_way_c_S (z : Fra × World × Array UInt8 × TC × List Int × Int × TC × Led) : Prop :=
  (fun (F9 : Fra) (w : World) (b : Array UInt8) (bt : TC) (ks : List Int) (a : Int) (ta : TC) (news : Led) => ∀ (hb : BI b = ks), ∀ (hl : ks.length ≤ 250), ∀ (hp : ptrGood ks), BodK w 344 [.bytes b bt, .int a ta] 9 news (fun r N => ((ks.length : Int) < ks.getD 0 0 + 1 ∧ r = .none ∧ N = news) ∨ (ks.getD 0 0 + 1 ≤ (ks.length : Int) ∧ ∃ ax t1 b1 t2, r = .ref ax ∧ N = (ax, Obj.mk (.type "tuple") none (.seq #[.int (g32 ks (ks.getD 0 0 - 3).toNat) t1, .bytes b1 t2]) #[]) :: news ∧ BI b1 = recO ks a ∧ ∀ p ∈ news, p.1 < ax)) F9) (z.1) (z.2.1) (z.2.2.1) (z.2.2.2.1) (z.2.2.2.2.1) (z.2.2.2.2.2.1) (z.2.2.2.2.2.2.1) (z.2.2.2.2.2.2.2)
@[irreducible] noncomputable def next_on_way_c_z : Fra × World × Array UInt8 × TC × List Int × Int × TC × Led := wit (fra0, wrl0, #[], 0, [], 0, 0, []) next_on_way_c_S
namespace next_on_way_c_
@[irreducible] noncomputable def F9 : Fra := next_on_way_c_z.1
@[irreducible] noncomputable def w : World := next_on_way_c_z.2.1
@[irreducible] noncomputable def b : Array UInt8 := next_on_way_c_z.2.2.1
@[irreducible] noncomputable def bt : TC := next_on_way_c_z.2.2.2.1
@[irreducible] noncomputable def ks : List Int := next_on_way_c_z.2.2.2.2.1
@[irreducible] noncomputable def a : Int := next_on_way_c_z.2.2.2.2.2.1
@[irreducible] noncomputable def ta : TC := next_on_way_c_z.2.2.2.2.2.2.1
@[irreducible] noncomputable def news : Led := next_on_way_c_z.2.2.2.2.2.2.2
theorem run : ∀ (hb : BI b = ks), ∀ (hl : ks.length ≤ 250), ∀ (hp : ptrGood ks), BodK w 344 [.bytes b bt, .int a ta] 9 news (fun r N => ((ks.length : Int) < ks.getD 0 0 + 1 ∧ r = .none ∧ N = news) ∨ (ks.getD 0 0 + 1 ≤ (ks.length : Int) ∧ ∃ ax t1 b1 t2, r = .ref ax ∧ N = (ax, Obj.mk (.type "tuple") none (.seq #[.int (g32 ks (ks.getD 0 0 - 3).toNat) t1, .bytes b1 t2]) #[]) :: news ∧ BI b1 = recO ks a ∧ ∀ p ∈ news, p.1 < ax)) F9 := by
  intro hb hl hp
  have hB := inB_of hb
  have i1 := getD_inB hB 0
  obtain ⟨p1, p2⟩ := hp
  refine' BodK.enter ?ho ?hb ?_; (case ho => k_is); (case hb => first | (dsimp only [List.map, List.zip, List.zipWith]; done) | (dsimp only [List.map, List.zip, List.zipWith]; exact rfl))
  intro B' F' X' N' T' hd hu hPE hnx hret
  k_steps
  · exact absurd (show ptrGood ks from ⟨p1, p2⟩) (by assumption)
  · ((try with_reducible refine hnx _ ?_); exact hret _ _ _ _ (.inl ⟨by lia, rfl, rfl⟩) (by k_asm) (by first | k_asm | exact news_subL (by assumption) (by k_extra "sub") | exact news_sub (by assumption) (by intro p hp; (try simp only [List.mem_cons, List.mem_append] at hp ⊢); grind)))
  · exact absurd (show ptrGood ks from ⟨p1, p2⟩) (by assumption)
  · rename (BI _ = recO _ _) => hR
    ((try with_reducible refine hnx _ ?_); exact hret _ _ _ _ (.inr ⟨by lia, _, _, _, _, rfl, rfl, hR, by assumption⟩) (by k_asm) (by k_asm))
end next_on_way_c_
theorem next_on_way_c (w : World) (b : Array UInt8) (bt : TC) (ks : List Int) (a : Int) (ta : TC) (news : Led) (hb : BI b = ks) (hl : ks.length ≤ 250) (hp : ptrGood ks)  : Con w (.ref 344) [.bytes b bt, .int a ta] 9 news (fun r N => ((ks.length : Int) < ks.getD 0 0 + 1 ∧ r = .none ∧ N = news) ∨ (ks.getD 0 0 + 1 ≤ (ks.length : Int) ∧ ∃ ax t1 b1 t2, r = .ref ax ∧ N = (ax, Obj.mk (.type "tuple") none (.seq #[.int (g32 ks (ks.getD 0 0 - 3).toNat) t1, .bytes b1 t2]) #[]) :: news ∧ BI b1 = recO ks a ∧ ∀ p ∈ news, p.1 < ax)) := by
  refine' BodK.con ?ho ?hcd ?hb ?hq ?hloc ?hco ?hgen ?hk ?hcell ?hD (fun F9 => @wit_all _ (fra0, wrl0, #[], 0, [], 0, 0, []) next_on_way_c_S (by with_unfolding_all exact next_on_way_c_.run) (F9, w, b, bt, ks, a, ta, news) hb hl hp); (case ho => k_is); (case hcd => k_is); (case hb => first | (dsimp only [List.map, List.zip, List.zipWith]; done) | (dsimp only [List.map, List.zip, List.zipWith]; exact rfl)); (case hq => first | exact fun _ _ => BindsTo.of_eq rfl | (intro s7 X7; exact binds_K X7 rfl (by k_is) rfl rfl rfl)); (case hloc => exact locs rfl); (case hco => exact rfl); (case hgen => exact rfl); (case hk => exact rfl); (case hcell => decide); (case hD => decide)

theorem reg_p14_0 : True := by
  k_with "call ref" => (k_here; (with_reducible show wpAny _ _ (call (Value.ref 344) _) _ _ _); k_dflt (refine' Con.use (next_on_way_c _ _ _ _ _ _ _ ?z1 ?z2 ?z3) ?B ?F ?X ?N ?T ?hk ?hd ?hu ?_; (case B => k_asm); (case F => k_asm); (case X => k_asm); (case N => k_asm); (case T => k_asm); (case hk => first | exact rfl | assumption); (case hd => ktr_room); (case hu => ktr_units); (case z1 => assumption); (case z2 => kba_size); (case z3 => assumption)); intro _ _ _ _ hP' _ _; obtain hN' := hP'; (try dsimp only))
  trivial
noncomputable def recQ (a : Int) (q : Int × List Int) : Int × List Int := if q.1 = 7 then (7, recO q.2 a) else q
theorem news_swap {g h : Heap} {L a b : Addr} {o o' : Obj} {l₁ l₂ : Led} (N : News g L h ((a, o) :: (l₁ ++ (b, o') :: l₂))) : News g L h ((b, o') :: ((a, o) :: (l₁ ++ l₂))) :=
  news_sub N fun p hp => by
    simp only [List.mem_cons, List.mem_append] at hp ⊢
    grind
theorem rec_news {g h : Heap} {L lb D : Addr} {cs : List OD} {n : Nat} {k : Int} {kt bt : TC} {b : Array UInt8} {X own rest : Led} (hr : rest = (optL cs ++ X) ++ own)
    (N : News g L h ((D, Obj.mk (.type "tuple") none (.seq #[.int k kt, .bytes b bt]) #[]) :: (lb, listOf ((optR cs).toArray.push (.ref D)) (n + 1)) :: rest)) :
    News g L h (((lb, listOf (optR (cs ++ [⟨D, k, kt, b, bt⟩])).toArray (n + 1)) :: (optL (cs ++ [⟨D, k, kt, b, bt⟩]) ++ X)) ++ own) := by
  subst hr
  rw [optR_snoc, optL_snoc, ← List.push_toArray]
  refine news_sub N fun p hp => ?_
  simp only [List.mem_cons, List.mem_append, List.not_mem_nil, or_false, OD.ent] at hp ⊢
  grind
theorem allLt_mem {D : Addr} {l : Led} (h : AllLt D l) {p : Addr × Obj} (hp : p ∈ l) : p.1 < D := by
  induction l with
  | nil => cases hp
  | cons q r ih => rcases List.mem_cons.mp hp with rfl | hp
                   · exact h.1
                   · exact ih h.2 hp
theorem rec_off {D I lb : Addr} {cs : List OD} {X own rest : Led} {k : Int} {kt bt : TC} {b : Array UInt8} {o o' oI : Obj} (hr : rest = (optL cs ++ X) ++ own) (hI : (I, oI) ∈ own) (zl : lb < D ∧ AllLt D rest) (hoff : ∀ p ∈ (lb, o) :: (optL cs ++ X), p.1 ∉ [I]) :
    ∀ p ∈ (lb, o') :: (optL (cs ++ [⟨D, k, kt, b, bt⟩]) ++ X), p.1 ∉ [I] := by
  intro p hp
  rcases List.mem_cons.mp hp with rfl | hp
  · exact hoff (lb, o) (.head _)
  · rcases mem_snoc hp with rfl | hp
    · have h := allLt_mem zl.2 (p := (I, oI)) (by rw [hr]; exact List.mem_append_right _ hI)
      exact fun e => absurd (List.mem_singleton.mp e) (Nat.ne_of_gt h)
    · exact hoff p (.tail _ hp)
theorem rec_ne {D lb : Addr} {cs : List OD} {X rest : Led} {k : Int} {kt bt : TC} {b : Array UInt8} (zl : lb < D ∧ AllLt D rest) (h : ∀ p ∈ optL cs ++ X, p.1 ≠ lb) : ∀ p ∈ optL (cs ++ [⟨D, k, kt, b, bt⟩]) ++ X, p.1 ≠ lb := by
  intro p hp
  rcases mem_snoc hp with rfl | hp
  · exact Nat.ne_of_gt zl.1
  · exact h p hp
theorem rec_opt {cs ds : List OD} {a : Int} {i : Nat} {k : Int} {b : Array UInt8} {d : OD} (h : optsOf cs = ((optsOf ds).take i).map (recQ a)) (hg : (optsOf ds)[i]? = some (k, BI b)) (hd : (d.k, BI d.b) = recQ a (k, BI b)) : optsOf (cs ++ [d]) = ((optsOf ds).take (i + 1)).map (recQ a) := by
  rw [optsOf_snoc, List.take_add_one, hg, List.map_append, h, hd]; rfl
structure RecS where
  lb : Addr
  cs : List OD
  n : Nat
noncomputable def record_in_c_S (z : Fra × World × Array UInt8 × TC × List Int × Int × TC × Led) : Prop :=
  (fun (F9 : Fra) (w : World) (b : Array UInt8) (bt : TC) (ks : List Int) (ad : Int) (ta : TC) (news : Led) => ∀ (l : List (Int × List Int)), ∀ (hb : BI b = ks), ∀ (hl : ks.length ≤ 200), ∀ (hr : rdAll ks = some l), ∀ (hp : ∀ q ∈ l, q.1 = 7 → ptrGood q.2), ∀ (hq : ∀ q ∈ l, q.2.length ≤ 200), ∀ (hok : ∀ q ∈ l, optOk (recQ ad q)), ∀ (hlen : (rawO (l.map (recQ ad))).length ≤ 40), BodK w 337 [.bytes b bt, .int ad ta] 10 news (fun r N => N = news ∧ ∃ b t, r = .bytes b t ∧ BI b = wrO (l.map (recQ ad))) F9) (z.1) (z.2.1) (z.2.2.1) (z.2.2.2.1) (z.2.2.2.2.1) (z.2.2.2.2.2.1) (z.2.2.2.2.2.2.1) (z.2.2.2.2.2.2.2)
@[irreducible] noncomputable def record_in_c_z : Fra × World × Array UInt8 × TC × List Int × Int × TC × Led := wit (fra0, wrl0, #[], 0, [], 0, 0, []) record_in_c_S
namespace record_in_c_
@[irreducible] noncomputable def F9 : Fra := record_in_c_z.1
@[irreducible] noncomputable def w : World := record_in_c_z.2.1
@[irreducible] noncomputable def b : Array UInt8 := record_in_c_z.2.2.1
@[irreducible] noncomputable def bt : TC := record_in_c_z.2.2.2.1
@[irreducible] noncomputable def ks : List Int := record_in_c_z.2.2.2.2.1
@[irreducible] noncomputable def ad : Int := record_in_c_z.2.2.2.2.2.1
@[irreducible] noncomputable def ta : TC := record_in_c_z.2.2.2.2.2.2.1
@[irreducible] noncomputable def news : Led := record_in_c_z.2.2.2.2.2.2.2
theorem run : ∀ (l : List (Int × List Int)), ∀ (hb : BI b = ks), ∀ (hl : ks.length ≤ 200), ∀ (hr : rdAll ks = some l), ∀ (hp : ∀ q ∈ l, q.1 = 7 → ptrGood q.2), ∀ (hq : ∀ q ∈ l, q.2.length ≤ 200), ∀ (hok : ∀ q ∈ l, optOk (recQ ad q)), ∀ (hlen : (rawO (l.map (recQ ad))).length ≤ 40), BodK w 337 [.bytes b bt, .int ad ta] 10 news (fun r N => N = news ∧ ∃ b t, r = .bytes b t ∧ BI b = wrO (l.map (recQ ad))) F9 := by
  intro l hb hl hr hp hq hok hlen
  refine' BodK.enter ?ho ?hb ?_; (case ho => k_is); (case hb => first | (dsimp only [List.map, List.zip, List.zipWith]; done) | (dsimp only [List.map, List.zip, List.zipWith]; exact rfl))
  intro B' F' X' N' T' hd hu hPE hnx hret
  k_steps
  · rename (rdAll ks = none) => hz
    rw [hr] at hz; cases hz
  rename (rdAll ks = some _) => hz
  rw [hr] at hz
  obtain rfl := Option.some.inj hz
  rename_i la ds n hL l2 N9
  have l1 := l1'
  have N8 := news_swap N9
  rename Fr _ _ _ _ => lF
  have hlb := l1.1
  have hln := l1.2
  refine seq_turns (σ := RecS) (fun c => (c.lb, listOf (optR c.cs).toArray c.n) :: (optL c.cs ++ (la, listOf (optR ds).toArray n) :: (optL ds ++ news))) (fun c => [(Str.ofString "later", .ref c.lb)]) [Str.ofString "kind", Str.ofString "told"]
    (fun i c => optsOf c.cs = ((optsOf ds).take i).map (recQ ad) ∧ (∀ p ∈ optL c.cs ++ (la, listOf (optR ds).toArray n) :: (optL ds ++ news), p.1 ≠ c.lb)) ⟨_, [], 0⟩ rfl lF N8 (List.mem_cons_of_mem _ (List.mem_append_right _ (.head _))) (.inl rfl) rfl (by intro p hp; rw [List.mem_singleton.mp hp]; rfl) ⟨rfl, ?h0⟩ ?turn ?done
  case h0 =>
    intro p hp
    rcases List.mem_cons.mp hp with rfl | hp
    · exact Nat.ne_of_gt hlb
    · rcases List.mem_append.mp hp with hp | hp
      · exact Nat.ne_of_gt (Nat.lt_trans hlb (l2 p hp))
      · exact Nat.ne_of_lt ((by assumption : ∀ p ∈ news, p.1 < _) p hp)
  case turn =>
    rintro ⟨lb, cs, n9⟩ i₉ v₉ u₉ h₉ tk₉ own I hv ⟨hP, hne9⟩ hoff hlt ⟨hown, oI, hinI⟩ F₁ N₁
    clear lF N8 N9
    dsimp only [kstB, envOf] at F₁ N₁ hP hne9 hoff
    simp only [optR, List.getElem?_map, Option.map_eq_some_iff] at hv
    obtain ⟨⟨a₁, k₁, kt₁, b₁, bt₁⟩, hd, rfl⟩ := hv
    have hcl : cs.length ≤ 200 := by
      have e := congrArg List.length hP
      simp only [optsOf, List.length_map, List.length_take] at e
      lia
    have hne1 : ∀ p ∈ own, p.1 ≠ lb := fun p hp e => by
      have h := hown p hp
      rw [e] at h
      rcases List.mem_cons.mp h with h | h
      · exact hoff _ (.head _) (by rw [h]; exact .head _)
      · exact hne9 (la, _) (List.mem_append_right _ (.head _)) (List.mem_singleton.mp h).symm
    obtain ⟨rest, hrest⟩ : ∃ rest, rest = (optL cs ++ (la, listOf (optR ds).toArray n) :: (optL ds ++ news)) ++ own := ⟨_, rfl⟩
    have N₂ := news_sub (l' := (lb, listOf (optR cs).toArray n9) :: rest) N₁ (fun p hp => by rw [hrest] at hp; exact hp)
    have hne2 : ∀ p ∈ rest, p.1 ≠ lb := fun p hp => by
      rw [hrest] at hp
      exact (List.mem_append.mp hp).elim (hne9 p) (hne1 p)
    have hm : (⟨a₁, k₁, kt₁, b₁, bt₁⟩ : OD).ent ∈ rest := by
      rw [hrest]
      exact List.mem_append_left _ (List.mem_append_right _ (List.mem_cons_of_mem _ (List.mem_append_left _ (mem_optL (List.mem_of_getElem? hd)))))
    dsimp only [OD.ent] at hm
    clear N₁
    have hmq : (k₁, BI b₁) ∈ optsOf ds := List.mem_map_of_mem (f := fun d : OD => (d.k, BI d.b)) (List.mem_of_getElem? hd)
    have hp1 := hp _ hmq
    have hq1 := hq _ hmq
    dsimp only at hp1 hq1
    have hB₁ : BI b₁ = BI b₁ := rfl
    have hget : (optsOf ds)[i₉]? = some (k₁, BI b₁) := by simp only [optsOf, List.getElem?_map, hd]; rfl
    try k_fold
    k_steps
    · exact absurd (hp1 (by assumption)) (by assumption)
    · rename News _ _ _ _ => nE
      rename (lb < _ ∧ AllLt _ _) => zl
      rename (BI _ = recO _ _) => hR
      have e7 : k₁ = 7 := by assumption
      exact tend ⟨lb, cs ++ [⟨_, _, _, _, _⟩], n9 + 1⟩ (by assumption) (rec_news hrest nE) (fun p hp => List.mem_append_left _ hp) (fun p hp => List.mem_append_right _ hp) (rec_off hrest hinI zl hoff) (by kst_all) (by ksw_same)
        ⟨rec_opt hP hget (by unfold recQ; rw [if_pos e7]; dsimp only; rw [e7, hR]), rec_ne zl hne9⟩
    · rename News _ _ _ _ => nE
      rename (lb < _ ∧ AllLt _ _) => zl
      have e7 : ¬ k₁ = 7 := by assumption
      exact tend ⟨lb, cs ++ [⟨_, _, _, _, _⟩], n9 + 1⟩ (by assumption) (rec_news hrest nE) (fun p hp => List.mem_append_left _ hp) (fun p hp => List.mem_append_right _ hp) (rec_off hrest hinI zl hoff) (by kst_all) (by ksw_same)
        ⟨rec_opt hP hget (by unfold recQ; rw [if_neg e7]), rec_ne zl hne9⟩
  case done =>
    rintro ⟨lb, cs, n9⟩ u₉ h₉ tk₉ ⟨hP, hne9⟩ F₁ N₁
    clear lF N8 N9
    dsimp only [kstB, envOf] at F₁ N₁ hP hne9
    rw [optR_length, show ds.length = (optsOf ds).length from by simp [optsOf], List.take_length] at hP
    have hok2 : ∀ d ∈ cs, optOk (d.k, BI d.b) := fun d hd => by
      have h : (d.k, BI d.b) ∈ optsOf cs := List.mem_map_of_mem (f := fun d : OD => (d.k, BI d.b)) hd
      rw [hP] at h
      obtain ⟨q, hq, e⟩ := List.mem_map.mp h
      rw [← e]; exact hok q hq
    rw [← hP] at hlen
    try k_fold
    k_steps
    rename (BI _ = wrO _) => hW
    ((try with_reducible refine hnx _ ?_); exact hret _ _ _ _ ⟨rfl, _, _, rfl, by rw [← hP]; exact hW⟩ (by k_asm) (by first | k_asm | exact news_subL (by assumption) (by k_extra "sub") | exact news_sub (by assumption) (by intro p hp; (try simp only [List.mem_cons, List.mem_append] at hp ⊢); grind)))
end record_in_c_
theorem record_in_c (w : World) (b : Array UInt8) (bt : TC) (ks : List Int) (l : List (Int × List Int)) (ad : Int) (ta : TC) (news : Led) (hb : BI b = ks) (hl : ks.length ≤ 200) (hr : rdAll ks = some l) (hp : ∀ q ∈ l, q.1 = 7 → ptrGood q.2) (hq : ∀ q ∈ l, q.2.length ≤ 200)
   (hok : ∀ q ∈ l, optOk (recQ ad q)) (hlen : (rawO (l.map (recQ ad))).length ≤ 40)  : Con w (.ref 337) [.bytes b bt, .int ad ta] 10 news (fun r N => N = news ∧ ∃ b t, r = .bytes b t ∧ BI b = wrO (l.map (recQ ad))) := by
  refine' BodK.con ?ho ?hcd ?hb ?hq ?hloc ?hco ?hgen ?hk ?hcell ?hD (fun F9 => @wit_all _ (fra0, wrl0, #[], 0, [], 0, 0, []) record_in_c_S (by with_unfolding_all exact record_in_c_.run) (F9, w, b, bt, ks, ad, ta, news) l hb hl hr hp hq hok hlen); (case ho => k_is); (case hcd => k_is); (case hb => first | (dsimp only [List.map, List.zip, List.zipWith]; done) | (dsimp only [List.map, List.zip, List.zipWith]; exact rfl)); (case hq => first | exact fun _ _ => BindsTo.of_eq rfl | (intro s7 X7; exact binds_K X7 rfl (by k_is) rfl rfl rfl)); (case hloc => exact locs rfl); (case hco => exact rfl); (case hgen => exact rfl); (case hk => exact rfl); (case hcell => decide); (case hD => decide)

theorem record_in_c_k (w : World) (b : Array UInt8) (bt : TC) (ks : List Int) (l : List (Int × List Int)) (ad : Int) (ta : TC) (news : Led) (hb : BI b = ks) (hl : ks.length ≤ 200) (hr : rdAll ks = some l) (hp : ∀ q ∈ l, q.1 = 7 → ptrGood q.2) (hq : ∀ q ∈ l, q.2.length ≤ 200)
   (hok : ∀ q ∈ l, optOk (recQ ad q)) (hlen : (rawO (l.map (recQ ad))).length ≤ 40)  :
   Kon w (.ref 337) [.bytes b bt, .int ad ta] 10 news (fun K9 => ∀ b t, (BI b = wrO (l.map (recQ ad))) → K9 (.bytes b t) (news))  :=
  Con.kon (record_in_c w b bt ks l ad ta news hb hl hr hp hq hok hlen) (by
    rintro K9 g9 r9 N9 ⟨rfl, v0, v1, rfl, v2⟩
    exact g9 v0 v1 v2)
theorem reg_p14_1 : True := by
  k_with "call ref" => (k_here; (with_reducible show wpAny _ _ (call (Value.ref 337) _) _ _ _); k_dflt (refine' Kon.go ?_ ?_ ?_ ?_ ?_ ?_ ?_ ?_ ?_ ?_; walk_at "side 0"; (any_goals ((with_reducible show Kon _ _ _ _ _ _); exact (record_in_c_k _ _ _ _ _ _ _ _ (by assumption) (by kba_size) (by assumption) (by assumption) (by assumption) (by assumption) (by assumption)))); walk_at "side 9"); intro _ _ _ _ _ _ _)
  trivial

/-! the law's source of drawn numbers -/
section
variable {prog : Program} {w : World} {A : Around} {E : Value → Shared → Prop} {s : Shared} {Q : Value → Shared → Prop} {a b : Int} {t u : Tok}
theorem mulK (h0 : -18446744073709551616 < a) (h1 : a < 18446744073709551616) (h : Q (.int (a * b) s.toks) { s with toks := s.toks + 1 }) : wpAny (model prog w) A (binaryOp .Mult (.int a t) (.int b u)) Q E s :=
  mul_int h (IntMulOk.of_left (intBits_le_64 (by rw [show (2 : Int) ^ 64 = 18446744073709551616 from by decide]; exact h0) (by rw [show (2 : Int) ^ 64 = 18446744073709551616 from by decide]; exact h1)))
end
theorem two0 (x y : Int) : [x, y].getD (Int.toNat 0) 0 = x := rfl
theorem two1 (x y : Int) : [x, y].getD (Int.toNat 1) 0 = y := rfl
noncomputable def SrcO (o : Obj) : Prop := ∃ (a b : Int) (ta tb : TC) (n : Nat), o = listOf #[.int a ta, .int b tb] n ∧ 0 ≤ a ∧ 0 ≤ b ∧ b < 2147483647
inductive Pick (x : Addr) (o : Obj) : Led → Led → Prop
  | head {r} : Pick x o ((x, o) :: r) r
  | tail {p l r} : Pick x o l r → Pick x o (p :: l) (p :: r)
  | left {l r l₂} : Pick x o l r → Pick x o (l ++ l₂) (r ++ l₂)
  | right {l r l₁} : Pick x o l r → Pick x o (l₁ ++ l) (l₁ ++ r)
theorem Pick.sub {x : Addr} {o : Obj} {l r : Led} (h : Pick x o l r) : ∀ p ∈ (x, o) :: r, p ∈ l := by
  induction h with
  | head => exact fun p hp => hp
  | tail _ ih =>
    intro p hp
    simp only [List.mem_cons] at hp ih ⊢
    grind
  | left _ ih =>
    intro p hp
    simp only [List.mem_cons, List.mem_append] at hp ih ⊢
    grind
  | right _ ih =>
    intro p hp
    simp only [List.mem_cons, List.mem_append] at hp ih ⊢
    grind
theorem KonT.go {w : World} {f : Value} {src : Addr} {o : Obj} {rest : Led} {args : List Value} {D : Nat} {G : (Value → Led → Prop) → Prop}
  {dp un : Nat} {gd : Option (List Code)} {cn : Str} {cs : Scope} {a : Addr} {ccd : Value} {cl : List (Str × Addr)} {outer : List Env} {A₀ : Around} {base h₀ : Heap} {L : Addr} {m : Str → Option Value} {s : Shared} {Q E : Value → Shared → Prop}
  {p : Program} {loose : List Str} {mean : ExcName → Option Value} {mg mb : Str → Option Value}
    (B : Below A₀ base outer h₀) (F : Fr h₀ L s.heap m) (X : (Mine.hk.heap_1 w.params).In h₀) (N : News h₀ L s.heap ((src, o) :: rest)) (T : Top p loose mean mg mb h₀) (hk : cs.kind = .function)
    (hd : dp + D < recursionLimit) (hu : un + 8 * D < cLine) (C : Kon w f (.ref src :: args) D ((src, o) :: rest) G)
    (g : ∀ h' tk', Fr h₀ L h' m → G fun r N₁ => News h₀ L h' N₁ → Q r { s with heap := h', toks := tk' }) :
      wpAny (model PySem.Challenge.rw_nu0131_01.row.prog w) (ktrTop dp un gd cn cs L a ccd cl outer) (call f (.ref src :: args)) Q E s := C dp un gd cn cs a ccd cl outer A₀ base h₀ L m s Q E p loose mean mg mb B F X N T hk hd hu g
theorem news_pick {g h : Heap} {L x : Addr} {o : Obj} {l r : Led} (N : News g L h l) (hp : Pick x o l r) : News g L h ((x, o) :: r) := news_sub N hp.sub
theorem reg_p15_0 : True := by
  k_with "binaryOp Pow int int" => (k_here; (try dsimp only); (with_reducible refine pow_int_small ?kb1 ?kb2 ?kb3 ?_); (case kb1 => decide); (case kb2 => decide); (case kb3 => decide); (try dsimp only))
  k_with "binaryOp Add int int" => (k_here; (try dsimp only); (with_reducible refine add_int ?_); (try dsimp only))
  k_with "binaryOp Sub int int" => (k_here; (try dsimp only); (with_reducible refine sub_int ?_); (try dsimp only))
  k_with "binaryOp Mult int int" => (k_here; with_reducible refine mulK (by first | lia | (simp only [two0, two1]; lia)) (by first | lia | (simp only [two0, two1]; lia)) ?_; (try dsimp only))
  k_with "k_upd" => first | exact Pick.head | (refine' Pick.tail ?p9; (case p9 => k_upd)) | (refine' Pick.right ?p9; (case p9 => k_upd)) | (refine' Pick.left ?p9; (case p9 => k_upd))
  k_with "side 1" => ((any_goals ((with_reducible show Below _ _ _ _); k_asm)); (any_goals ((with_reducible show Fr _ _ _ _); k_asm)); (any_goals ((with_reducible show Frag.In _ _); k_asm)); (any_goals ((with_reducible show News _ _ _ _); (exact news_pick (by with_reducible assumption) (by k_upd)))); (any_goals ((with_reducible show Top _ _ _ _ _ _); k_asm)); (any_goals ((with_reducible show Scope.kind _ = _); first | exact rfl | assumption)))
  k_with "k_all" => (refine List.forall_mem_append.mpr (And.intro ?_ ?_) <;> k_all)
  trivial
noncomputable def law_take_e_S (z : Fra × World × Addr × Int × Int × TC × TC × Nat × Int × TC × Led) : Prop :=
  (fun (F9 : Fra) (w : World) (src : Addr) (a9 : Int) (b9 : Int) (ta9 : TC) (tb9 : TC) (n9 : Nat) (top : Int) (tt : TC) (rest : Led) => ∀ (ha : 0 ≤ a9), ∀ (hb0 : 0 ≤ b9), ∀ (hb1 : b9 < 2147483647), ∀ (hne : ∀ p ∈ rest, p.1 ≠ src), ∀ (h0 : 1 ≤ top), ∀ (h1 : top ≤ 1000000), BodK w 358 [.ref src, .int top tt] 1 ((src, listOf #[.int a9 ta9, .int b9 tb9] n9) :: rest) (fun r N => ∃ o' d t, N = (src, o') :: rest ∧ SrcO o' ∧ r = .int d t ∧ 0 ≤ d ∧ d < top) F9) (z.1) (z.2.1) (z.2.2.1) (z.2.2.2.1) (z.2.2.2.2.1) (z.2.2.2.2.2.1) (z.2.2.2.2.2.2.1) (z.2.2.2.2.2.2.2.1) (z.2.2.2.2.2.2.2.2.1) (z.2.2.2.2.2.2.2.2.2.1) (z.2.2.2.2.2.2.2.2.2.2)
@[irreducible] noncomputable def law_take_e_z : Fra × World × Addr × Int × Int × TC × TC × Nat × Int × TC × Led := wit (fra0, wrl0, 0, 0, 0, 0, 0, 0, 0, 0, []) law_take_e_S
namespace law_take_e_
@[irreducible] noncomputable def F9 : Fra := law_take_e_z.1
@[irreducible] noncomputable def w : World := law_take_e_z.2.1
@[irreducible] noncomputable def src : Addr := law_take_e_z.2.2.1
@[irreducible] noncomputable def a9 : Int := law_take_e_z.2.2.2.1
@[irreducible] noncomputable def b9 : Int := law_take_e_z.2.2.2.2.1
@[irreducible] noncomputable def ta9 : TC := law_take_e_z.2.2.2.2.2.1
@[irreducible] noncomputable def tb9 : TC := law_take_e_z.2.2.2.2.2.2.1
@[irreducible] noncomputable def n9 : Nat := law_take_e_z.2.2.2.2.2.2.2.1
@[irreducible] noncomputable def top : Int := law_take_e_z.2.2.2.2.2.2.2.2.1
@[irreducible] noncomputable def tt : TC := law_take_e_z.2.2.2.2.2.2.2.2.2.1
@[irreducible] noncomputable def rest : Led := law_take_e_z.2.2.2.2.2.2.2.2.2.2
theorem run : ∀ (ha : 0 ≤ a9), ∀ (hb0 : 0 ≤ b9), ∀ (hb1 : b9 < 2147483647), ∀ (hne : ∀ p ∈ rest, p.1 ≠ src), ∀ (h0 : 1 ≤ top), ∀ (h1 : top ≤ 1000000), BodK w 358 [.ref src, .int top tt] 1 ((src, listOf #[.int a9 ta9, .int b9 tb9] n9) :: rest) (fun r N => ∃ o' d t, N = (src, o') :: rest ∧ SrcO o' ∧ r = .int d t ∧ 0 ≤ d ∧ d < top) F9 := by
  intro ha hb0 hb1 hne h0 h1
  refine' BodK.enter ?ho ?hb ?_; (case ho => k_is); (case hb => first | (dsimp only [List.map, List.zip, List.zipWith]; done) | (dsimp only [List.map, List.zip, List.zipWith]; exact rfl))
  intro B' F' X' N' T' hd hu hPE hnx hret
  k_steps
  · refine hret _ _ _ _ ⟨_, _, _, rfl, ⟨_, _, _, _, _, rfl, ?h1, hb0, hb1⟩, rfl, Int.emod_nonneg _ (by lia), Int.emod_lt_of_pos _ (by lia)⟩ (by k_asm) (by k_asm)
    rw [two0]; exact Int.ediv_nonneg ha (by lia)
  · refine hret _ _ _ _ ⟨_, _, _, rfl, ⟨_, _, _, _, _, rfl, ha, ?h2, ?h3⟩, rfl, Int.emod_nonneg _ (by lia), Int.emod_lt_of_pos _ (by lia)⟩ (by k_asm) (by k_asm)
    · rw [two1]; lia
    · rw [two1]; lia
end law_take_e_
theorem law_take_e (w : World) (src : Addr) (a9 b9 : Int) (ta9 tb9 : TC) (n9 : Nat) (top : Int) (tt : TC) (rest : Led) (ha : 0 ≤ a9) (hb0 : 0 ≤ b9) (hb1 : b9 < 2147483647) (hne : ∀ p ∈ rest, p.1 ≠ src) (h0 : 1 ≤ top) (h1 : top ≤ 1000000)  : Con w (.ref 358) [.ref src, .int top tt] 1 ((src, listOf #[.int a9 ta9, .int b9 tb9] n9) :: rest) (fun r N => ∃ o' d t, N = (src, o') :: rest ∧ SrcO o' ∧ r = .int d t ∧ 0 ≤ d ∧ d < top) := by
  refine' BodK.con ?ho ?hcd ?hb ?hq ?hloc ?hco ?hgen ?hk ?hcell ?hD (fun F9 => @wit_all _ (fra0, wrl0, 0, 0, 0, 0, 0, 0, 0, 0, []) law_take_e_S (by with_unfolding_all exact law_take_e_.run) (F9, w, src, a9, b9, ta9, tb9, n9, top, tt, rest) ha hb0 hb1 hne h0 h1); (case ho => k_is); (case hcd => k_is); (case hb => first | (dsimp only [List.map, List.zip, List.zipWith]; done) | (dsimp only [List.map, List.zip, List.zipWith]; exact rfl)); (case hq => first | exact fun _ _ => BindsTo.of_eq rfl | (intro s7 X7; exact binds_K X7 rfl (by k_is) rfl rfl rfl)); (case hloc => exact locs rfl); (case hco => exact rfl); (case hgen => exact rfl); (case hk => exact rfl); (case hcell => decide); (case hD => decide)

theorem law_take_c (w : World) (src : Addr) (o : Obj) (top : Int) (tt : TC) (rest : Led) (ho : SrcO o) (hne : ∀ p ∈ rest, p.1 ≠ src) (h0 : 1 ≤ top) (h1 : top ≤ 1000000) :
   Con w (.ref 358) [.ref src, .int top tt] 1 ((src, o) :: rest) (fun r N => ∃ o' d t, N = (src, o') :: rest ∧ SrcO o' ∧ r = .int d t ∧ 0 ≤ d ∧ d < top) := by
  obtain ⟨a9, b9, ta9, tb9, n9, rfl, ha, hb0, hb1⟩ := ho
  exact law_take_e w src a9 b9 ta9 tb9 n9 top tt rest ha hb0 hb1 hne h0 h1
theorem law_take_c_k (w : World) (src : Addr) (o : Obj) (top : Int) (tt : TC) (rest : Led) (ho : SrcO o) (hne : ∀ p ∈ rest, p.1 ≠ src) (h0 : 1 ≤ top) (h1 : top ≤ 1000000)  :
   Kon w (.ref 358) [.ref src, .int top tt] 1 ((src, o) :: rest) (fun K9 => ∀ o' d t, (SrcO o') → (0 ≤ d) → (d < top) → K9 (.int d t) ((src, o') :: rest))  :=
  Con.kon (law_take_c w src o top tt rest ho hne h0 h1) (by
    rintro K9 g9 r9 N9 ⟨v0, v1, v2, rfl, v3, rfl, v4, v5⟩
    exact g9 v0 v1 v2 v3 v4 v5)
theorem reg_p15_1 : True := by
  k_with "call ref" => (k_here; (with_reducible show wpAny _ _ (call (Value.ref 358) _) _ _ _); k_dflt (refine' KonT.go ?_ ?_ ?_ ?_ ?_ ?_ ?_ ?_ ?_ ?_; walk_at "side 1"; (any_goals ((with_reducible show Kon _ _ _ _ _ _); exact (law_take_c_k _ _ _ _ _ _ (by assumption) (by k_all) (by lia) (by lia)))); walk_at "side 9"); intro _ _ _ _ _ _ _ _ _ _)
  trivial
theorem led_list {g h : Heap} {L D : Addr} {l : Led} {its : Array Value} {n : Nat} (N : News g L h l) (hm : (D, listOf its n) ∈ l) : h.IsList D its := ⟨_, (N _ hm).1, rfl, n, rfl⟩
theorem gd_mem {ns : List Int} {d : Int} (h0 : 0 ≤ d) (h1 : d < (ns.length : Int)) : ns.getD d.toNat 0 ∈ ns := by
  have hj : d.toNat < ns.length := by lia
  have e : ns.getD d.toNat 0 = ns[d.toNat] := by simp [hj]
  rw [e]; exact List.getElem_mem hj
theorem reg_p15_2 : True := by
  k_with "call builtin:len" => (k_here; (with_reducible show wpAny _ _ (call (Value.builtin "len") [Value.ref _]) _ _ _); (with_reducible rename News _ _ _ _ => N9'); k_dflt (refine' len_ints_fit (led_list N9' ?k1) ?k2 ?k3 ?_; (case k1 => k_mem); (case k2 => assumption); (case k3 => lia)); (try dsimp only))
  k_with "subscriptTail Name" => (k_here; (with_reducible show wpAny _ _ (subscriptTail _ _ (Value.ref _) (Value.int _ _)) _ _ _); (with_reducible rename News _ _ _ _ => N9'); k_dflt (refine' item_list_ints (led_list N9' ?k1) ?k2 ?k3 ?k4 ?k5 ?_; (case k1 => k_mem); (case k2 => assumption); (case k3 => lia); (case k4 => lia); (case k5 => lia)); intro _; (try dsimp only))
  trivial
noncomputable def law_one_c_S (z : Fra × World × Addr × Obj × Addr × List Value × List Int × Nat × Led) : Prop :=
  (fun (F9 : Fra) (w : World) (src : Addr) (o : Obj) (th : Addr) (vs : List Value) (ns : List Int) (n : Nat) (rest : Led) => ∀ (ho : SrcO o), ∀ (hne : ∀ p ∈ rest, p.1 ≠ src), ∀ (hth : (th, listOf vs.toArray n) ∈ rest), ∀ (hi : IntsAre vs ns), ∀ (h0 : 1 ≤ ns.length), ∀ (h1 : ns.length ≤ 1000), BodK w 365 [.ref src, .ref th] 2 ((src, o) :: rest) (fun r N => ∃ o' v t, N = (src, o') :: rest ∧ SrcO o' ∧ r = .int v t ∧ v ∈ ns) F9) (z.1) (z.2.1) (z.2.2.1) (z.2.2.2.1) (z.2.2.2.2.1) (z.2.2.2.2.2.1) (z.2.2.2.2.2.2.1) (z.2.2.2.2.2.2.2.1) (z.2.2.2.2.2.2.2.2)
@[irreducible] noncomputable def law_one_c_z : Fra × World × Addr × Obj × Addr × List Value × List Int × Nat × Led := wit (fra0, wrl0, 0, listOf #[] 0, 0, [], [], 0, []) law_one_c_S
namespace law_one_c_
@[irreducible] noncomputable def F9 : Fra := law_one_c_z.1
@[irreducible] noncomputable def w : World := law_one_c_z.2.1
@[irreducible] noncomputable def src : Addr := law_one_c_z.2.2.1
@[irreducible] noncomputable def o : Obj := law_one_c_z.2.2.2.1
@[irreducible] noncomputable def th : Addr := law_one_c_z.2.2.2.2.1
@[irreducible] noncomputable def vs : List Value := law_one_c_z.2.2.2.2.2.1
@[irreducible] noncomputable def ns : List Int := law_one_c_z.2.2.2.2.2.2.1
@[irreducible] noncomputable def n : Nat := law_one_c_z.2.2.2.2.2.2.2.1
@[irreducible] noncomputable def rest : Led := law_one_c_z.2.2.2.2.2.2.2.2
theorem run : ∀ (ho : SrcO o), ∀ (hne : ∀ p ∈ rest, p.1 ≠ src), ∀ (hth : (th, listOf vs.toArray n) ∈ rest), ∀ (hi : IntsAre vs ns), ∀ (h0 : 1 ≤ ns.length), ∀ (h1 : ns.length ≤ 1000), BodK w 365 [.ref src, .ref th] 2 ((src, o) :: rest) (fun r N => ∃ o' v t, N = (src, o') :: rest ∧ SrcO o' ∧ r = .int v t ∧ v ∈ ns) F9 := by
  intro ho hne hth hi h0 h1
  refine' BodK.enter ?ho ?hb ?_; (case ho => k_is); (case hb => first | (dsimp only [List.map, List.zip, List.zipWith]; done) | (dsimp only [List.map, List.zip, List.zipWith]; exact rfl))
  intro B' F' X' N' T' hd hu hPE hnx hret
  k_steps
  ((try with_reducible refine hnx _ ?_); exact hret _ _ _ _ ⟨_, _, _, rfl, by assumption, rfl, gd_mem (by assumption) (by assumption)⟩ (by k_asm) (by first | k_asm | exact news_subL (by assumption) (by k_extra "sub") | exact news_sub (by assumption) (by intro p hp; (try simp only [List.mem_cons, List.mem_append] at hp ⊢); grind)))
end law_one_c_
theorem law_one_c (w : World) (src : Addr) (o : Obj) (th : Addr) (vs : List Value) (ns : List Int) (n : Nat) (rest : Led) (ho : SrcO o) (hne : ∀ p ∈ rest, p.1 ≠ src) (hth : (th, listOf vs.toArray n) ∈ rest) (hi : IntsAre vs ns) (h0 : 1 ≤ ns.length) (h1 : ns.length ≤ 1000)  : Con w (.ref 365) [.ref src, .ref th] 2 ((src, o) :: rest) (fun r N => ∃ o' v t, N = (src, o') :: rest ∧ SrcO o' ∧ r = .int v t ∧ v ∈ ns) := by
  refine' BodK.con ?ho ?hcd ?hb ?hq ?hloc ?hco ?hgen ?hk ?hcell ?hD (fun F9 => @wit_all _ (fra0, wrl0, 0, listOf #[] 0, 0, [], [], 0, []) law_one_c_S (by with_unfolding_all exact law_one_c_.run) (F9, w, src, o, th, vs, ns, n, rest) ho hne hth hi h0 h1); (case ho => k_is); (case hcd => k_is); (case hb => first | (dsimp only [List.map, List.zip, List.zipWith]; done) | (dsimp only [List.map, List.zip, List.zipWith]; exact rfl)); (case hq => first | exact fun _ _ => BindsTo.of_eq rfl | (intro s7 X7; exact binds_K X7 rfl (by k_is) rfl rfl rfl)); (case hloc => exact locs rfl); (case hco => exact rfl); (case hgen => exact rfl); (case hk => exact rfl); (case hcell => decide); (case hD => decide)

theorem law_one_c_k (w : World) (src : Addr) (o : Obj) (th : Addr) (vs : List Value) (ns : List Int) (n : Nat) (rest : Led) (ho : SrcO o) (hne : ∀ p ∈ rest, p.1 ≠ src) (hth : (th, listOf vs.toArray n) ∈ rest) (hi : IntsAre vs ns) (h0 : 1 ≤ ns.length) (h1 : ns.length ≤ 1000)  :
   Kon w (.ref 365) [.ref src, .ref th] 2 ((src, o) :: rest) (fun K9 => ∀ o' v t, (SrcO o') → (v ∈ ns) → K9 (.int v t) ((src, o') :: rest))  :=
  Con.kon (law_one_c w src o th vs ns n rest ho hne hth hi h0 h1) (by
    rintro K9 g9 r9 N9 ⟨v0, v1, v2, rfl, v3, rfl, v4⟩
    exact g9 v0 v1 v2 v3 v4)
theorem reg_p15_3 : True := by
  k_with "call ref" => (k_here; (with_reducible show wpAny _ _ (call (Value.ref 365) _) _ _ _); k_dflt (refine' KonT.go ?_ ?_ ?_ ?_ ?_ ?_ ?_ ?_ ?_ ?_; walk_at "side 1"; (any_goals ((with_reducible show Kon _ _ _ _ _ _); exact (law_one_c_k _ _ _ _ _ _ _ _ (by assumption) (by k_all) (by k_mem) (by first | assumption | (repeat' (first | exact IntsAre.nil | refine' IntsAre.cons _ _ ?_))) (by first | lia | exact Nat.le_of_ble_eq_true rfl) (by first | lia | exact Nat.le_of_ble_eq_true rfl)))); walk_at "side 9"); intro _ _ _ _ _ _ _ _ _)
  trivial
noncomputable def law_address_c_S (z : Fra × World × Addr × Obj × Led) : Prop :=
  (fun (F9 : Fra) (w : World) (src : Addr) (o : Obj) (rest : Led) => ∀ (ho : SrcO o), ∀ (hne : ∀ p ∈ rest, p.1 ≠ src), BodK w 384 [.ref src] 3 ((src, o) :: rest) (fun r N => ∃ o' v t, N = (src, o') :: rest ∧ SrcO o' ∧ r = .int v t ∧ 0 ≤ v ∧ v < 4294967296) F9) (z.1) (z.2.1) (z.2.2.1) (z.2.2.2.1) (z.2.2.2.2)
@[irreducible] noncomputable def law_address_c_z : Fra × World × Addr × Obj × Led := wit (fra0, wrl0, 0, listOf #[] 0, []) law_address_c_S
namespace law_address_c_
@[irreducible] noncomputable def F9 : Fra := law_address_c_z.1
@[irreducible] noncomputable def w : World := law_address_c_z.2.1
@[irreducible] noncomputable def src : Addr := law_address_c_z.2.2.1
@[irreducible] noncomputable def o : Obj := law_address_c_z.2.2.2.1
@[irreducible] noncomputable def rest : Led := law_address_c_z.2.2.2.2
theorem run : ∀ (ho : SrcO o), ∀ (hne : ∀ p ∈ rest, p.1 ≠ src), BodK w 384 [.ref src] 3 ((src, o) :: rest) (fun r N => ∃ o' v t, N = (src, o') :: rest ∧ SrcO o' ∧ r = .int v t ∧ 0 ≤ v ∧ v < 4294967296) F9 := by
  intro ho hne
  refine' BodK.enter ?ho ?hb ?_; (case ho => k_is); (case hb => first | (dsimp only [List.map, List.zip, List.zipWith]; done) | (dsimp only [List.map, List.zip, List.zipWith]; exact rfl))
  intro B' F' X' N' T' hd hu hPE hnx hret
  k_steps
  rename (_ ∈ (_ :: _ : List Int)) => hv
  ((try with_reducible refine hnx _ ?_); exact hret _ _ _ _ ⟨_, _, _, rfl, by assumption, rfl, by simp only [List.mem_cons, List.not_mem_nil, or_false, Int.reduceToNat, Int.reducePow, Int.reduceMul, Int.reduceAdd, Int.reduceSub] at hv; lia, by simp only [List.mem_cons, List.not_mem_nil, or_false, Int.reduceToNat, Int.reducePow, Int.reduceMul, Int.reduceAdd, Int.reduceSub] at hv; lia⟩ (by k_asm) (by first | k_asm | exact news_subL (by assumption) (by k_extra "sub") | exact news_sub (by assumption) (by intro p hp; (try simp only [List.mem_cons, List.mem_append] at hp ⊢); grind)))
end law_address_c_
theorem law_address_c (w : World) (src : Addr) (o : Obj) (rest : Led) (ho : SrcO o) (hne : ∀ p ∈ rest, p.1 ≠ src)  : Con w (.ref 384) [.ref src] 3 ((src, o) :: rest) (fun r N => ∃ o' v t, N = (src, o') :: rest ∧ SrcO o' ∧ r = .int v t ∧ 0 ≤ v ∧ v < 4294967296) := by
  refine' BodK.con ?ho ?hcd ?hb ?hq ?hloc ?hco ?hgen ?hk ?hcell ?hD (fun F9 => @wit_all _ (fra0, wrl0, 0, listOf #[] 0, []) law_address_c_S (by with_unfolding_all exact law_address_c_.run) (F9, w, src, o, rest) ho hne); (case ho => k_is); (case hcd => k_is); (case hb => first | (dsimp only [List.map, List.zip, List.zipWith]; done) | (dsimp only [List.map, List.zip, List.zipWith]; exact rfl)); (case hq => first | exact fun _ _ => BindsTo.of_eq rfl | (intro s7 X7; exact binds_K X7 rfl (by k_is) rfl rfl rfl)); (case hloc => exact locs rfl); (case hco => exact rfl); (case hgen => exact rfl); (case hk => exact rfl); (case hcell => decide); (case hD => decide)

theorem law_address_c_k (w : World) (src : Addr) (o : Obj) (rest : Led) (ho : SrcO o) (hne : ∀ p ∈ rest, p.1 ≠ src)  :
   Kon w (.ref 384) [.ref src] 3 ((src, o) :: rest) (fun K9 => ∀ o' v t, (SrcO o') → (0 ≤ v) → (v < 4294967296) → K9 (.int v t) ((src, o') :: rest))  :=
  Con.kon (law_address_c w src o rest ho hne) (by
    rintro K9 g9 r9 N9 ⟨v0, v1, v2, rfl, v3, rfl, v4, v5⟩
    exact g9 v0 v1 v2 v3 v4 v5)
theorem reg_p15_4 : True := by
  k_with "call ref" => (k_here; (with_reducible show wpAny _ _ (call (Value.ref 384) _) _ _ _); k_dflt (refine' KonT.go ?_ ?_ ?_ ?_ ?_ ?_ ?_ ?_ ?_ ?_; walk_at "side 1"; (any_goals ((with_reducible show Kon _ _ _ _ _ _); exact (law_address_c_k _ _ _ _ (by assumption) (by k_all)))); walk_at "side 9"); intro _ _ _ _ _ _ _ _ _ _)
  trivial

/-! _law_total, _law_number -/
theorem foldv_add {x g : Int} (h0 : 0 ≤ x) (h1 : 0 ≤ g) (h2 : g < 65536) : foldv (x + g) = if 65535 < foldv x + g then foldv x + g - 65535 else foldv x + g := by
  by_cases hx : x = 0
  · subst hx
    have e : foldv 0 = 0 := rfl
    rw [e, Int.zero_add, if_neg (Int.not_lt.mpr (Int.le_of_lt_add_one h2))]
    exact foldv_small h1 (Int.le_of_lt_add_one h2)
  · have p : 0 < x := by lia
    have e : foldv x = (x - 1) % 65535 + 1 := if_neg hx
    have e2 : foldv (x + g) = (x + g - 1) % 65535 + 1 := if_neg (Int.ne_of_gt (Int.add_pos_of_pos_of_nonneg p h1))
    have r0 := Int.emod_nonneg (x - 1) (by decide : (65535 : Int) ≠ 0)
    have r1 := Int.emod_lt_of_pos (x - 1) (by decide : (0 : Int) < 65535)
    have e3 : (x + g - 1) % 65535 = ((x - 1) % 65535 + g) % 65535 := by rw [Int.emod_add_emod]; exact congrArg (· % 65535) (by lia)
    rw [e, e2, e3]
    generalize (x - 1) % 65535 = r at *
    clear e e2 e3 p hx h0
    split
    · rw [show r + g = r + g - 65535 + 65535 * 1 by lia, Int.add_mul_emod_self_left, Int.emod_eq_of_lt (by lia) (by lia)]; lia
    · rw [Int.emod_eq_of_lt (by lia) (by lia)]; lia
theorem tot_step {ks pre : List Int} {c k : Int} (hB : InB ks) (h : c = foldv (psum (ks.take (2 * pre.length)))) (hl : 2 * pre.length + 1 < ks.length) :
    foldv (psum (ks.take (2 * (pre ++ [k]).length))) = (if 65535 < c + ks.getD (0 + (pre.length : Int) * 2).toNat 0 * 256 + ks.getD (0 + (pre.length : Int) * 2 + 1).toNat 0 then c + ks.getD (0 + (pre.length : Int) * 2).toNat 0 * 256 + ks.getD (0 + (pre.length : Int) * 2 + 1).toNat 0 - 65535 else c + ks.getD (0 + (pre.length : Int) * 2).toNat 0 * 256 + ks.getD (0 + (pre.length : Int) * 2 + 1).toNat 0) := by
  have p1 := psum_in (ks := ks.take (2 * pre.length)) fun k hk => hB k (List.mem_of_mem_take hk)
  have g1 := g16_in hB (2 * pre.length)
  rw [List.length_append, List.length_singleton, psum_take _ _ hl, foldv_add p1.1 g1.1 g1.2, ← h]
  unfold g16
  rw [tn_m2, tn_m2s, Int.add_assoc]
theorem tot_next1 {ks pre : List Int} {c k : Int} (hB : InB ks) (h : c = foldv (psum (ks.take (2 * pre.length)))) (hl : 2 * pre.length + 1 < ks.length) (hg : 65535 < c + ks.getD (0 + (pre.length : Int) * 2).toNat 0 * 256 + ks.getD (0 + (pre.length : Int) * 2 + 1).toNat 0) :
    c + ks.getD (0 + (pre.length : Int) * 2).toNat 0 * 256 + ks.getD (0 + (pre.length : Int) * 2 + 1).toNat 0 - 65535 = foldv (psum (ks.take (2 * (pre ++ [k]).length))) := by rw [tot_step hB h hl, if_pos hg]
theorem tot_next2 {ks pre : List Int} {c k : Int} (hB : InB ks) (h : c = foldv (psum (ks.take (2 * pre.length)))) (hl : 2 * pre.length + 1 < ks.length) (hg : ¬ 65535 < c + ks.getD (0 + (pre.length : Int) * 2).toNat 0 * 256 + ks.getD (0 + (pre.length : Int) * 2 + 1).toNat 0) :
    c + ks.getD (0 + (pre.length : Int) * 2).toNat 0 * 256 + ks.getD (0 + (pre.length : Int) * 2 + 1).toNat 0 = foldv (psum (ks.take (2 * (pre ++ [k]).length))) := by rw [tot_step hB h hl, if_neg hg]
noncomputable def law_total_c_S (z : Fra × World × Array UInt8 × TC × List Int × Led) : Prop :=
  (fun (F9 : Fra) (w : World) (b : Array UInt8) (tb : TC) (ks : List Int) (news : Led) => ∀ (hb : BI b = ks), ∀ (hl : ks.length ≤ 100000), ∀ (he : ks.length % 2 = 0), BodK w 398 [.bytes b tb] 2 news (fun r N => N = news ∧ ∃ t, r = .int (foldv (psum ks)) t) F9) (z.1) (z.2.1) (z.2.2.1) (z.2.2.2.1) (z.2.2.2.2.1) (z.2.2.2.2.2)
@[irreducible] noncomputable def law_total_c_z : Fra × World × Array UInt8 × TC × List Int × Led := wit (fra0, wrl0, #[], 0, [], []) law_total_c_S
namespace law_total_c_
@[irreducible] noncomputable def F9 : Fra := law_total_c_z.1
@[irreducible] noncomputable def w : World := law_total_c_z.2.1
@[irreducible] noncomputable def b : Array UInt8 := law_total_c_z.2.2.1
@[irreducible] noncomputable def tb : TC := law_total_c_z.2.2.2.1
@[irreducible] noncomputable def ks : List Int := law_total_c_z.2.2.2.2.1
@[irreducible] noncomputable def news : Led := law_total_c_z.2.2.2.2.2
theorem run : ∀ (hb : BI b = ks), ∀ (hl : ks.length ≤ 100000), ∀ (he : ks.length % 2 = 0), BodK w 398 [.bytes b tb] 2 news (fun r N => N = news ∧ ∃ t, r = .int (foldv (psum ks)) t) F9 := by
  intro hb hl he
  have hB := inB_of hb
  refine' BodK.enter ?ho ?hb ?_; (case ho => k_is); (case hb => first | (dsimp only [List.map, List.zip, List.zipWith]; done) | (dsimp only [List.map, List.zip, List.zipWith]; exact rfl))
  intro B' F' X' N' T' hd hu hPE hnx hret
  k_steps
  rename IsRange _ _ _ _ _ _ _ _ => rg
  rename Fr _ _ _ _ => lF
  rename News _ _ _ _ => lN
  k_with "state" => first | exact tot_next1 hB (by assumption) (by lia) (by assumption) | exact tot_next2 hB (by assumption) (by lia) (by assumption)
  with_unfolding_all refine' kst_rangeP (σ := Int × Tok) (n := ks.length / 2) (fun _ => news) (fun c => [(Str.ofString "total", Value.int c.1 c.2)]) [] (fun i c => c.1 = foldv (psum (ks.take (2 * i)))) (0, _) (by rfl) rg (small_pos (by lia) (by lia) (by lia) (by lia) (by lia) (by lia)) ((congrArg (Builtin.Range.rangeSize 0 · 2) (ev2' he)).trans (rs2 _)) lF lN ?hk ?hp ?turn ?done
  case hk => intro p hp; rw [List.mem_singleton.mp hp]; rfl
  case hp => simp [psum, foldv]
  case turn =>
    rintro ⟨c, tc⟩ pre k t u h tk own rfl hlt hoff hP F₁ N₁
    dsimp only [kstB] at F₁
    have i1 := getD_inB hB ((0 : Int) + (pre.length : Int) * 2).toNat
    have i2 := getD_inB hB ((0 : Int) + (pre.length : Int) * 2 + 1).toNat
    have hP' : c = foldv (psum (ks.take (2 * pre.length))) := hP
    k_steps
  case done =>
    rintro ⟨c, tc⟩ u h tk hP F₁ N₁
    dsimp only [kstB] at F₁
    have hP' : c = foldv (psum (ks.take (2 * (ks.length / 2)))) := hP
    rw [List.take_of_length_le (by lia)] at hP'
    k_steps
    ((try with_reducible refine hnx _ ?_); exact hret _ _ _ _ ⟨rfl, _, by rw [hP']⟩ (by k_asm) (by first | k_asm | exact news_subL (by assumption) (by k_extra "sub") | exact news_sub (by assumption) (by intro p hp; (try simp only [List.mem_cons, List.mem_append] at hp ⊢); grind)))
end law_total_c_
theorem law_total_c (w : World) (b : Array UInt8) (tb : TC) (ks : List Int) (news : Led) (hb : BI b = ks) (hl : ks.length ≤ 100000) (he : ks.length % 2 = 0)  : Con w (.ref 398) [.bytes b tb] 2 news (fun r N => N = news ∧ ∃ t, r = .int (foldv (psum ks)) t) := by
  refine' BodK.con ?ho ?hcd ?hb ?hq ?hloc ?hco ?hgen ?hk ?hcell ?hD (fun F9 => @wit_all _ (fra0, wrl0, #[], 0, [], []) law_total_c_S (by with_unfolding_all exact law_total_c_.run) (F9, w, b, tb, ks, news) hb hl he); (case ho => k_is); (case hcd => k_is); (case hb => first | (dsimp only [List.map, List.zip, List.zipWith]; done) | (dsimp only [List.map, List.zip, List.zipWith]; exact rfl)); (case hq => first | exact fun _ _ => BindsTo.of_eq rfl | (intro s7 X7; exact binds_K X7 rfl (by k_is) rfl rfl rfl)); (case hloc => exact locs rfl); (case hco => exact rfl); (case hgen => exact rfl); (case hk => exact rfl); (case hcell => decide); (case hD => decide)

theorem law_total_c_k (w : World) (b : Array UInt8) (tb : TC) (ks : List Int) (news : Led) (hb : BI b = ks) (hl : ks.length ≤ 100000) (he : ks.length % 2 = 0)  :
   Kon w (.ref 398) [.bytes b tb] 2 news (fun K9 => ∀ t, K9 (.int (foldv (psum ks)) t) (news))  :=
  Con.kon (law_total_c w b tb ks news hb hl he) (by
    rintro K9 g9 r9 N9 ⟨rfl, v0, rfl⟩
    exact g9 v0)
theorem reg_p16_0 : True := by
  k_with "call ref" => (k_here; (with_reducible show wpAny _ _ (call (Value.ref 398) _) _ _ _); k_dflt (refine' Kon.go ?_ ?_ ?_ ?_ ?_ ?_ ?_ ?_ ?_ ?_; walk_at "side 0"; (any_goals ((with_reducible show Kon _ _ _ _ _ _); exact (law_total_c_k _ _ _ _ _ (by assumption) (by kba_size) (by kba_size)))); walk_at "side 9"); intro _ _ _ _ _)
  trivial
noncomputable def numv (ks : List Int) (a : Nat) : Nat → Int
  | 0 => 0
  | i + 1 => numv ks a i * 256 + ks.getD (a + i) 0
theorem num_next {ks pre : List Int} {c k : Int} {a : Nat} (h : c = numv ks a pre.length) : c * 256 + ks.getD ((a : Int) + (pre.length : Int) * 1).toNat 0 = numv ks a (pre ++ [k]).length := by
  rw [List.length_append, List.length_singleton, numv, h, tn_m1]
theorem num_fold (ks : List Int) (a n : Nat) : (List.foldl (fun (c : Int × Unit) (k : Int) => (c.fst * 256 + ks.getD k.toNat 0, ())) (0, ()) (rangeInts (a : Int) 1 n)).fst = numv ks a n := by
  induction n with
  | zero => rfl
  | succ n ih =>
    rw [rangeInts_snoc, List.foldl_append, List.foldl_cons, List.foldl_nil, numv, ih]
    dsimp only
    rw [tn_m1]
theorem law_number_c (w : World) (b : Array UInt8) (tb : TC) (ks : List Int) (at' many : Nat) (ta tm : TC) (news : Led) (hb : BI b = ks) (hl : ks.length ≤ 100000) (hm : many ≤ 6) (he : at' + many ≤ ks.length) :
   Con w (.ref 405) [.bytes b tb, .int (at' : Int) ta, .int (many : Int) tm] 2 news (fun r N => N = news ∧ ∃ t, r = .int (numv ks at' many) t) := by
  have hB := inB_of hb
  have hn : ((at' : Int) + (many : Int) - (at' : Int)).toNat = many := tn_span _ _
  unfold Con
  k_fill
  intro dp un gd cn cs a ccd cl outer A₀ base h₀ L m s Q E p loose mean mg mb B F X N T hk hd hu hret
  refine wpAny_call ?_
  k_dflt (refine' code_def ?k1 ?k2 ?k3 ?k4 ?k5 ?kA ?kF ?kK ?k6 ?k7 ?k8 ?k9 ?kB ?_ ?c2 ?c3 ?c4 ?c5; (case kA => exact rfl); (case kF => exact rfl); (case kK => assumption); (case k1 => k_asm); (case k2 => k_asm); (case k3 => k_asm); (case k4 => k_asm); (case k5 => k_asm); (case k6 => k_is); (case k7 => k_is); (case k8 => ktr_room); (case k9 => first | exact BindsTo.of_eq rfl | exact binds_K (by k_in) rfl (by k_is) rfl rfl rfl); (case c5 => decide); (case kB => exact locs rfl); (case c2 => exact rfl); (case c3 => exact rfl); (case c4 => exact rfl); k_whole; intro g' L' h' FG' F' N' B' X' T'; (try dsimp only); (try k_fold))
  k_steps
  rw [hn]
  exact hret _ _ _ _ ⟨rfl, _, congrArg (fun z => Value.int z _) (num_fold ks at' many)⟩ (by k_asm) (by k_asm)
theorem law_number_i (w : World) (b : Array UInt8) (tb : TC) (ks : List Int) (x y : Int) (ta tm : TC) (news : Led) (hb : BI b = ks) (hl : ks.length ≤ 100000) (h0 : 0 ≤ x) (h1 : 0 ≤ y) (hm : y ≤ 6) (he : x + y ≤ ks.length) :
   Con w (.ref 405) [.bytes b tb, .int x ta, .int y tm] 2 news (fun r N => N = news ∧ ∃ t, r = .int (numv ks x.toNat y.toNat) t) := by
  obtain ⟨x', rfl⟩ := Int.eq_ofNat_of_zero_le h0
  obtain ⟨y', rfl⟩ := Int.eq_ofNat_of_zero_le h1
  exact law_number_c w b tb ks x' y' ta tm news hb hl (by lia) (by lia)
theorem law_number_i_k (w : World) (b : Array UInt8) (tb : TC) (ks : List Int) (x y : Int) (ta tm : TC) (news : Led) (hb : BI b = ks) (hl : ks.length ≤ 100000) (h0 : 0 ≤ x) (h1 : 0 ≤ y) (hm : y ≤ 6) (he : x + y ≤ ks.length)  :
   Kon w (.ref 405) [.bytes b tb, .int x ta, .int y tm] 2 news (fun K9 => ∀ t, K9 (.int (numv ks x.toNat y.toNat) t) (news))  :=
  Con.kon (law_number_i w b tb ks x y ta tm news hb hl h0 h1 hm he) (by
    rintro K9 g9 r9 N9 ⟨rfl, v0, rfl⟩
    exact g9 v0)
theorem reg_p16_1 : True := by
  k_with "call ref" => (k_here; (with_reducible show wpAny _ _ (call (Value.ref 405) _) _ _ _); k_dflt (refine' Kon.go ?_ ?_ ?_ ?_ ?_ ?_ ?_ ?_ ?_ ?_; walk_at "side 0"; (any_goals ((with_reducible show Kon _ _ _ _ _ _); exact (law_number_i_k _ _ _ _ _ _ _ _ _ (by assumption) (by kba_size) (by lia) (by lia) (by lia) (by lia)))); walk_at "side 9"); intro _ _ _ _ _)
  trivial

/-! the plain law of the head: no program in sight -/
theorem psum_append : ∀ (a b : List Int), a.length % 2 = 0 → psum (a ++ b) = psum a + psum b
  | [], b, _ => by simp [psum]
  | [x], b, h => by simp at h
  | x :: y :: r, b, h => by
    have h' : r.length % 2 = 0 := by simp only [List.length_cons] at h; lia
    have e := psum_append r b h'
    simp only [List.cons_append, psum, e]; lia
theorem psum_nonneg {ks : List Int} (h : InB ks) : 0 ≤ psum ks := (psum_in h).1
theorem foldv_top {x : Int} (h0 : 0 < x) (h1 : x % 65535 = 0) : foldv x = 65535 := by
  unfold foldv; rw [if_neg (Int.ne_of_gt h0)]; lia
theorem foldv_eq {x y : Int} (hx : 0 < x) (hy : 0 < y) (h : (x - y) % 65535 = 0) : foldv x = foldv y := by
  unfold foldv; rw [if_neg (Int.ne_of_gt hx), if_neg (Int.ne_of_gt hy)]; exact fold_eq h
/-- the head alone -/
noncomputable def hH (h : Hdr) (n : Int) : List Int := hA h n ++ w16 (hck h n) ++ hZ h
theorem pk_eq (h : Hdr) (ks : List Int) : pk h ks = hH h ks.length ++ ks := rfl
noncomputable def hS (h : Hdr) (n : Int) : Int := psum (hA h n) + psum (hZ h)
theorem hA_len (h : Hdr) (n : Int) : (hA h n).length = 10 := rfl
theorem hZ_len (h : Hdr) : (hZ h).length = 8 + h.options.length := by simp [hZ, w32_len]; lia
theorem hH_len (h : Hdr) (n : Int) : (hH h n).length = 20 + h.options.length := by
  simp only [hH, List.length_append, hA_len, hZ_len, w16_len]; lia
theorem psum_w16 {c : Int} (h0 : 0 ≤ c) (h1 : c < 65536) : psum (w16 c) = c := by
  simp only [w16, psum]; lia
theorem psum_mid (h : Hdr) (n c : Int) (h0 : 0 ≤ c) (h1 : c < 65536) : psum (hA h n ++ w16 c ++ hZ h) = hS h n + c := by
  rw [psum_append _ _ (by simp [hA_len, w16_len]), psum_append _ _ (by simp [hA_len]), psum_w16 h0 h1]
  unfold hS; lia
theorem hck_eq (h : Hdr) (n : Int) : hck h n = 65535 - foldv (hS h n) := by
  unfold hck ck
  rw [psum_mid h n 0 (by lia) (by lia), Int.add_zero]
theorem inB_w16 (n : Int) : InB (w16 n) := by
  intro k hk
  simp only [w16, List.mem_cons, List.not_mem_nil, or_false] at hk
  lia
theorem inB_app {a b : List Int} (ha : InB a) (hb : InB b) : InB (a ++ b) := fun k hk => (List.mem_append.mp hk).elim (ha k) (hb k)
theorem inB_w32 (n : Int) : InB (w32 n) := inB_app (inB_w16 _) (inB_w16 _)
theorem inB_hA {h : Hdr} (H : h.Ok) (n : Int) : InB (hA h n) := by
  have := H.n1
  have := H.c0
  have := H.c1
  have := H.l0
  have := H.l1
  have := H.p0
  have := H.p1
  refine inB_app (inB_app ?_ (inB_app (inB_app (inB_w16 _) (inB_w16 _)) (inB_w16 _))) ?_
  · intro k hk
    simp only [List.mem_cons, List.not_mem_nil, or_false] at hk
    lia
  · intro k hk
    simp only [List.mem_cons, List.not_mem_nil, or_false] at hk
    lia
theorem inB_hZ {h : Hdr} (hO : InB h.options) : InB (hZ h) := inB_app (inB_app (inB_w32 _) (inB_w32 _)) hO
theorem hA_low {h : Hdr} (H : h.Ok) (n : Int) : 256 * (64 + (20 + (h.options.length : Int)) / 4) + 256 * h.ttl ≤ psum (hA h n) := by
  have := H.c0
  have := H.p0
  have e : psum (hA h n) = (64 + (20 + (h.options.length : Int)) / 4) * 256 + h.tos + (psum (w16 (20 + (h.options.length : Int) + n)) + psum (w16 h.ident) + psum (w16 h.flags)) + (h.ttl * 256 + h.protocol) := by
    simp only [hA, w16, psum, List.cons_append, List.nil_append]; lia
  have p1 := psum_nonneg (inB_w16 (20 + (h.options.length : Int) + n))
  have p2 := psum_nonneg (inB_w16 h.ident)
  have p3 := psum_nonneg (inB_w16 h.flags)
  lia
theorem hS_pos {h : Hdr} (H : h.Ok) (hO : InB h.options) (n : Int) : 16384 + 256 * h.ttl < hS h n := by
  have := hA_low H n
  have := psum_nonneg (inB_hZ hO)
  unfold hS; lia
theorem hck_in {h : Hdr} (H : h.Ok) (hO : InB h.options) (n : Int) : 0 ≤ hck h n ∧ hck h n < 65536 := by
  have := hS_pos H hO n
  have := H.l0
  have := foldv_in (x := hS h n) (by lia)
  rw [hck_eq]; lia
theorem psum_hH {h : Hdr} (H : h.Ok) (hO : InB h.options) (n : Int) : psum (hH h n) = hS h n + hck h n := by
  have := hck_in H hO n
  exact psum_mid h n _ this.1 this.2
theorem fill_up {S r q : Int} (e : r + 65535 * q = S - 1) : S + (65535 - (r + 1)) = 65535 * (q + 1) := by lia
theorem head_full {h : Hdr} (H : h.Ok) (hO : InB h.options) (n : Int) : 0 < psum (hH h n) ∧ psum (hH h n) % 65535 = 0 := by
  have h1 := hS_pos H hO n
  have h2 := H.l0
  have s0 : 0 < hS h n := by lia
  rw [psum_hH H hO, hck_eq]
  unfold foldv
  rw [if_neg (Int.ne_of_gt s0), fill_up (Int.emod_add_mul_ediv (hS h n - 1) 65535)]
  exact ⟨Int.mul_pos (by decide) (Int.add_pos_of_nonneg_of_pos (Int.ediv_nonneg (by lia) (by decide)) (by decide)), Int.mul_emod_right _ _⟩
theorem head_fold {h : Hdr} (H : h.Ok) (hO : InB h.options) (n : Int) : foldv (psum (hH h n)) = 65535 := by
  have := head_full H hO n
  exact foldv_top this.1 this.2
theorem inB_hH {h : Hdr} (H : h.Ok) (hO : InB h.options) (n : Int) : InB (hH h n) := inB_app (inB_app (inB_hA H n) (inB_w16 _)) (inB_hZ hO)
/-- the head octet by octet -/
theorem hH_cons (h : Hdr) (n : Int) : hH h n = [64 + (20 + (h.options.length : Int)) / 4, h.tos, (20 + (h.options.length : Int) + n) / 256 % 256, (20 + (h.options.length : Int) + n) % 256, h.ident / 256 % 256, h.ident % 256, h.flags / 256 % 256, h.flags % 256, h.ttl, h.protocol,
    hck h n / 256 % 256, hck h n % 256, h.source / 65536 / 256 % 256, h.source / 65536 % 256, h.source / 256 % 256, h.source % 256, h.target / 65536 / 256 % 256, h.target / 65536 % 256, h.target / 256 % 256, h.target % 256] ++ h.options := by
  simp only [hH, hA, hZ, w32, w16, List.cons_append, List.nil_append, List.append_assoc]
theorem take_hH (h : Hdr) (n : Int) (r : List Int) {j : Nat} (hj : j = 20 + h.options.length) : (hH h n ++ r).take j = hH h n := by
  rw [hj, ← hH_len h n, List.take_left]
theorem drop_hH (h : Hdr) (n : Int) (r : List Int) {j : Nat} (hj : j = 20 + h.options.length) : (hH h n ++ r).drop j = r := by
  rw [hj, ← hH_len h n, List.drop_left]
theorem nib {l : Nat} (n0 : l % 4 = 0) (n1 : l ≤ 40) : (64 + (20 + (l : Int)) / 4) / 16 = 4 ∧ (64 + (20 + (l : Int)) / 4) % 16 * 4 = 20 + (l : Int) := by
  obtain ⟨k, rfl⟩ : ∃ k, l = 4 * k := ⟨l / 4, by lia⟩
  have e : (20 + ((4 * k : Nat) : Int)) / 4 = 5 + (k : Int) := by lia
  have k1 : k ≤ 10 := by lia
  rw [e]; clear e n0 n1
  constructor <;> lia
theorem nib_nat {l : Nat} (n0 : l % 4 = 0) (n1 : l ≤ 40) : ((64 + (20 + (l : Int)) / 4) % 16 * 4).toNat = 20 + l := by
  rw [(nib n0 n1).2]; rfl
theorem hsz_hH {h : Hdr} (H : h.Ok) (n : Int) (r : List Int) : hsz (hH h n ++ r) = 20 + h.options.length := by
  have e : (hH h n ++ r).getD 0 0 = 64 + (20 + (h.options.length : Int)) / 4 := by rw [hH_cons]; rfl
  unfold hsz
  rw [e]; exact nib_nat H.n0 H.n1
theorem tot_hH {h : Hdr} (n : Int) (r : List Int) (h0 : 0 ≤ n) (h1 : n ≤ 60000) (h2 : h.options.length ≤ 40) : g16 (hH h n ++ r) 2 = 20 + h.options.length + n := by
  rw [hH_cons]; exact by16 (by lia) (by lia)
theorem headGood_hH {h : Hdr} (H : h.Ok) (n : Int) (r : List Int) : headGood (hH h n ++ r) := by
  have hl : (hH h n ++ r).length = 20 + h.options.length + r.length := by rw [List.length_append, hH_len]
  have e : (hH h n ++ r).getD 0 0 = 64 + (20 + (h.options.length : Int)) / 4 := by rw [hH_cons]; rfl
  obtain ⟨a, b⟩ := nib H.n0 H.n1
  unfold headGood
  rw [hl, e, a, b]
  exact ⟨Nat.le_trans (Nat.le_add_right _ _) (Nat.le_add_right _ _), rfl, Int.le_add_of_nonneg_right (Int.natCast_nonneg _), Int.ofNat_le.mpr (Nat.le_add_right _ _)⟩
theorem ipGood_hH {h : Hdr} (H : h.Ok) (hO : InB h.options) (ps z : List Int) (hp : ps.length ≤ 60000) : ipGood (pk h ps ++ z) := by
  rw [pk_eq, List.append_assoc]
  refine ⟨headGood_hH H _ _, ?_, ?_, ?_⟩
  · rw [hsz_hH H, tot_hH _ _ (by lia) (by lia) H.n1]; lia
  · rw [tot_hH _ _ (by lia) (by lia) H.n1]
    simp only [List.length_append, hH_len]; lia
  · rw [hsz_hH H, take_hH _ _ _ rfl]
    unfold ck
    rw [head_fold H hO]; rfl
theorem fl_a {k a b : Int} (k0 : 0 ≤ k) (k1 : k < 8192) (ha : a = 0 ∨ a = 1) (hb : b = 0 ∨ b = 1) : (k + 16384 * a + 8192 * b) / 16384 % 2 = a ∧ (k + 16384 * a + 8192 * b) / 8192 % 2 = b ∧ (k + 16384 * a + 8192 * b) % 8192 = k ∧ 0 ≤ k + 16384 * a + 8192 * b ∧ k + 16384 * a + 8192 * b < 65536 := by
  have e1 : (k + 16384 * a + 8192 * b) / 8192 = 2 * a + b := by lia
  have e2 : (k + 16384 * a + 8192 * b) / 16384 = a := by lia
  refine ⟨?_, ?_, ?_, ?_, ?_⟩
  · rw [e2]; clear e1 e2; lia
  · rw [e1]; clear e1 e2; lia
  · clear e1 e2; lia
  · clear e1 e2; lia
  · clear e1 e2; lia
theorem fl_b (d : Bool) (c : Int) : (if d then c else 0) = c * (if d then 1 else 0) := by cases d <;> simp
theorem fl_c (d : Bool) : ((if d then (1 : Int) else 0) = 0 ∨ (if d then (1 : Int) else 0) = 1) ∧ (((if d then (1 : Int) else 0) * 16384 != 0) = d) ∧ (((if d then (1 : Int) else 0) * 8192 != 0) = d) := by cases d <;> decide
theorem flag_parts {o f : Int} {d m : Bool} (o0 : 0 ≤ o) (o1 : o < 65536) (o8 : o % 8 = 0) (hf : f = o / 8 + (if d then 16384 else 0) + (if m then 8192 else 0)) :
    (0 ≤ f ∧ f < 65536) ∧ (f / 16384 % 2 * 16384 != 0) = d ∧ (f / 8192 % 2 * 8192 != 0) = m ∧ f % 8192 * 8 = o := by
  obtain ⟨a, b, c, e, g⟩ := fl_a (k := o / 8) (Int.ediv_nonneg o0 (by decide)) (by lia) (fl_c d).1 (fl_c m).1
  rw [fl_b d 16384, fl_b m 8192] at hf
  rw [← hf] at a b c e g
  rw [a, b, c]
  exact ⟨⟨e, g⟩, (fl_c d).2.1, (fl_c m).2.2, Int.ediv_mul_cancel (Int.dvd_of_emod_eq_zero o8)⟩
theorem hdrOf_hH {h : Hdr} (H : h.Ok) (n : Int) (r : List Int) : hdrOf (hH h n ++ r) = h := by
  have e := hsz_hH H n r
  have hd : (hH h n ++ r).drop 20 = h.options ++ r := by rw [hH_cons]; rfl
  obtain ⟨f1, f2, f3, f4⟩ := flag_parts (f := h.flags) H.o0 H.o1 H.o8 rfl
  have q4 : g16 (hH h n ++ r) 4 = h.ident := by rw [hH_cons]; exact by16 H.i0 H.i1
  have q6 : g16 (hH h n ++ r) 6 = h.flags := by rw [hH_cons]; exact by16 f1.1 f1.2
  have q12 : g16 (hH h n ++ r) 12 * 65536 + g16 (hH h n ++ r) 14 = h.source := by rw [hH_cons]; exact by32 H.s0 H.s1
  have q16 : g16 (hH h n ++ r) 16 * 65536 + g16 (hH h n ++ r) 18 = h.target := by rw [hH_cons]; exact by32 H.t0 H.t1
  have q9 : (hH h n ++ r).getD 9 0 = h.protocol := by rw [hH_cons]; rfl
  have q8 : (hH h n ++ r).getD 8 0 = h.ttl := by rw [hH_cons]; rfl
  have q1 : (hH h n ++ r).getD 1 0 = h.tos := by rw [hH_cons]; rfl
  unfold hdrOf
  rw [e, hd, Nat.add_sub_cancel_left, List.take_left, q4, q6, q12, q16, q9, q8, q1, f2, f3, f4]
theorem rest_hH {h : Hdr} (H : h.Ok) (ps z : List Int) (hp : ps.length ≤ 60000) : ((pk h ps ++ z).drop (hsz (pk h ps ++ z))).take ((g16 (pk h ps ++ z) 2).toNat - hsz (pk h ps ++ z)) = ps := by
  rw [pk_eq, List.append_assoc, hsz_hH H, tot_hH _ _ (by lia) (by lia) H.n1, drop_hH _ _ _ rfl, show (20 + (h.options.length : Int) + (ps.length : Int)).toNat - (20 + h.options.length) = ps.length from Nat.add_sub_cancel_left .., List.take_left]
theorem psum_turn : ∀ (l : List Int) (i : Nat) (v : Int), i < l.length → psum (l.take i ++ [v] ++ l.drop (i + 1)) = psum l + (v - l.getD i 0) * (if i % 2 = 0 then 256 else 1)
  | [], _, _, h => by simp at h
  | [x], 0, v, _ => by simp [psum]; lia
  | [x], i + 1, v, h => by simp at h
  | x :: y :: r, 0, v, _ => by simp [psum]; lia
  | x :: y :: r, 1, v, _ => by simp [psum]; lia
  | x :: y :: r, i + 2, v, h => by
    have e := psum_turn r i v (by simp only [List.length_cons] at h; lia)
    simp only [List.take_succ_cons, List.drop_succ_cons, List.cons_append, psum, List.getD_cons_succ, Nat.add_mod_right] at e ⊢
    rw [e]; lia
noncomputable def IsBit (d : Int) : Prop := d = 1 ∨ d = 2 ∨ d = 4 ∨ d = 8 ∨ d = 16 ∨ d = 32 ∨ d = 64 ∨ d = 128
theorem getD_app {a b : List Int} {i : Nat} (h : i < a.length) : (a ++ b).getD i 0 = a.getD i 0 := by
  rw [List.getD_eq_getElem?_getD, List.getElem?_append_left h, ← List.getD_eq_getElem?_getD]
theorem nib_no {l : Nat} {v d : Int} (n1 : l ≤ 40) (hq : v / 16 = 4) (h16 : 16 ≤ d) (hv : v = 64 + (20 + (l : Int)) / 4 + d ∨ v = 64 + (20 + (l : Int)) / 4 - d) : False := by
  have q0 : 5 ≤ (20 + (l : Int)) / 4 := by lia
  have q1 : (20 + (l : Int)) / 4 ≤ 15 := by lia
  have v0 : 64 ≤ v := by lia
  have v1 : v < 80 := by lia
  generalize (20 + (l : Int)) / 4 = q at *
  clear hq n1
  rcases hv with rfl | rfl <;> lia
theorem IsBit.le {d : Int} (h : IsBit d) : 1 ≤ d ∧ d ≤ 128 := by
  rcases h with rfl | rfl | rfl | rfl | rfl | rfl | rfl | rfl <;> decide
theorem small_no {P x : Int} (h0 : 0 < P) (h1 : P % 65535 = 0) (x0 : -32768 ≤ x) (x1 : x ≤ 32768) (hx : x ≠ 0) (h : foldv (P + x) = 65535) : False := by
  unfold foldv at h
  split at h
  · exact absurd h (by decide)
  · lia
theorem delta_no {P d q : Int} {i : Nat} (hd : IsBit d) (hq : q = d ∨ q = -d) (h0 : 0 < P) (h1 : P % 65535 = 0) (h : foldv (P + q * (if i % 2 = 0 then 256 else 1)) = 65535) : False := by
  obtain ⟨d0, d1⟩ := hd.le
  clear hd
  refine small_no h0 h1 ?_ ?_ ?_ h <;> (clear h h0 h1; rcases hq with rfl | rfl <;> split <;> lia)
theorem turned_bad {h : Hdr} (H : h.Ok) (hO : InB h.options) (ps : List Int) {i : Nat} {v d : Int} (hi : i < 20 + h.options.length) (hd : IsBit d) (hv : v = (pk h ps).getD i 0 + d ∨ v = (pk h ps).getD i 0 - d) (h0 : i = 0 → 16 ≤ d) :
    ¬ ipGood ((pk h ps).take i ++ [v] ++ (pk h ps).drop (i + 1)) := by
  have hl := hH_len h ps.length
  have n0 := H.n0
  have n1 := H.n1
  rw [pk_eq] at hv ⊢
  have hi' : i < (hH h ps.length).length := hl.symm ▸ hi
  rw [getD_app hi'] at hv
  rw [List.take_append_of_le_length (Nat.le_of_lt hi'), List.drop_append_of_le_length hi', ← List.append_assoc]
  have hl' : ((hH h ps.length).take i ++ [v] ++ (hH h ps.length).drop (i + 1)).length = 20 + h.options.length := by
    simp only [List.length_append, List.length_take, List.length_drop, List.length_cons, List.length_nil]; exact (turn_len (by rw [hl]; exact hi)).trans hl
  rintro ⟨g1, g2, g3, g4⟩
  rcases Nat.eq_zero_or_pos i with rfl | hpos
  · have e0 : ((hH h ps.length).take 0 ++ [v] ++ (hH h ps.length).drop (0 + 1) ++ ps).getD 0 0 = v := rfl
    have e1 : (hH h ps.length).getD 0 0 = 64 + (20 + (h.options.length : Int)) / 4 := by rw [hH_cons]; rfl
    rw [e1] at hv
    have := g1.2.1
    rw [e0] at this
    exact nib_no n1 this (h0 rfl) hv
  · have e0 : ((hH h ps.length).take i ++ [v] ++ (hH h ps.length).drop (i + 1) ++ ps).getD 0 0 = 64 + (20 + (h.options.length : Int)) / 4 := by
      rw [List.append_assoc, List.append_assoc, getD_app (by rw [List.length_take]; exact Nat.lt_min.mpr ⟨hpos, Nat.lt_of_lt_of_le hpos (Nat.le_of_lt hi')⟩), List.getD_eq_getElem?_getD, List.getElem?_take_of_lt hpos, ← List.getD_eq_getElem?_getD, hH_cons]; rfl
    have e2 : hsz ((hH h ps.length).take i ++ [v] ++ (hH h ps.length).drop (i + 1) ++ ps) = 20 + h.options.length := by
      unfold hsz; rw [e0]; exact nib_nat n0 n1
    rw [e2, ← hl', List.take_left] at g4
    have e3 := psum_turn (hH h ps.length) i v hi'
    have e4 := head_full H hO ps.length
    unfold ck at g4
    have e5 : foldv (psum ((hH h ps.length).take i ++ [v] ++ (hH h ps.length).drop (i + 1))) = 65535 := (Int.sub_eq_zero.mp g4).symm
    rw [e3] at e5
    have sb (a b : Int) : a + b - a = b := by lia
    have sb2 (a b : Int) : a - b - a = -b := by lia
    exact delta_no hd (hv.imp (fun e => by rw [e, sb]) (fun e => by rw [e, sb2])) e4.1 e4.2 e5
theorem short_bad {h : Hdr} (H : h.Ok) (ps : List Int) (hp : ps.length ≤ 60000) {s : Nat} (hs : s < 20 + h.options.length + ps.length) : ¬ ipGood ((pk h ps).take s) := by
  rintro ⟨g1, g2, g3, g4⟩
  have hl : (pk h ps).length = 20 + h.options.length + ps.length := by rw [pk_eq, List.length_append, hH_len]
  have l1 : ((pk h ps).take s).length = s := by rw [List.length_take]; lia
  have e : g16 ((pk h ps).take s) 2 = g16 (pk h ps) 2 := by
    have := g1.1
    unfold g16
    rw [List.getD_eq_getElem?_getD, List.getElem?_take_of_lt (by lia), List.getD_eq_getElem?_getD, List.getElem?_take_of_lt (by lia), ← List.getD_eq_getElem?_getD, ← List.getD_eq_getElem?_getD]
  have e2 := tot_hH (h := h) ps.length ps (by lia) (by lia) H.n1
  rw [e, pk_eq, e2, ← pk_eq, l1] at g3
  lia
theorem hop_ck {S X t : Int} (hS : 16384 + 256 * t < S) (ht : 1 < t) : foldv (65535 - (65535 - foldv S) + (65535 - X) + (X - 256)) = foldv (S - 256) := by
  have e : 65535 - (65535 - foldv S) + (65535 - X) + (X - 256) = foldv S + 65279 := by lia
  have s0 : 16640 < S := by lia
  rw [e]
  clear e hS ht
  have f0 := foldv_in (x := S) (by lia)
  refine foldv_eq (by lia) (by lia) ?_
  unfold foldv
  rw [if_neg (by lia)]
  clear f0
  lia
theorem hop_pk {h : Hdr} (H : h.Ok) (hO : InB h.options) (ps : List Int) (ht : 1 < h.ttl) : hopOct (pk h ps) = pk { h with ttl := h.ttl - 1 } ps := by
  have i2 := hck_in H hO ps.length
  have i4 := hck_eq { h with ttl := h.ttl - 1 } ps.length
  have i5 : hS { h with ttl := h.ttl - 1 } ps.length = hS h ps.length - 256 := by
    unfold hS hZ
    simp only [hA, w16, psum, List.cons_append, List.nil_append, Hdr.flags]; clear H hO ht i2 i4; lia
  obtain ⟨t1, t2⟩ := hop_t (t := h.ttl) H.p0 H.p1
  have t3 : (h.ttl * 256 + h.protocol - 256) / 256 % 256 = h.ttl - 1 := by
    have l1 := H.l1
    rw [t1]; exact Int.emod_eq_of_lt (Int.sub_nonneg_of_le (Int.le_of_lt ht)) (Int.lt_of_le_of_lt (Int.sub_le_self _ (by decide)) l1)
  have e8 : g16 (pk h ps) 8 = h.ttl * 256 + h.protocol := by rw [pk_eq, hH_cons]; rfl
  have e10 : g16 (pk h ps) 10 = hck h ps.length := by
    rw [pk_eq, hH_cons]
    exact by16 i2.1 i2.2
  have e : 65535 - foldv (65535 - hck h ps.length + (65535 - (h.ttl * 256 + h.protocol)) + (h.ttl * 256 + h.protocol - 256)) = hck { h with ttl := h.ttl - 1 } ps.length := by
    rw [i4, i5, hck_eq h ps.length, hop_ck (hS_pos H hO ps.length) ht]
  unfold hopOct
  rw [e8, e10, e]
  rw [pk_eq, pk_eq, hH_cons, hH_cons]
  unfold w16
  rw [t3, t2]
  rfl
theorem fields_pk {h : Hdr} (H : h.Ok) (ps : List Int) (hp : ps.length ≤ 60000) :
    (pk h ps).getD 0 0 = 64 + (20 + (h.options.length : Int)) / 4 ∧ (pk h ps).getD 1 0 = h.tos ∧ numv (pk h ps) 2 2 = 20 + (h.options.length : Int) + ps.length ∧ numv (pk h ps) 4 2 = h.ident ∧ numv (pk h ps) 6 2 = h.flags ∧
    (pk h ps).getD 8 0 = h.ttl ∧ (pk h ps).getD 9 0 = h.protocol ∧ numv (pk h ps) 12 4 = h.source ∧ numv (pk h ps) 16 4 = h.target := by
  have hf := flags_in H
  have z : ∀ x : Int, 0 * 256 + x = x := fun x => by lia
  have q4 (a b c d : Int) : ((a * 256 + b) * 256 + c) * 256 + d = (a * 256 + b) * 65536 + (c * 256 + d) := by lia
  have n1 := H.n1
  have t2 : (20 + (h.options.length : Int) + ps.length) / 256 % 256 * 256 + (20 + (h.options.length : Int) + ps.length) % 256 = 20 + (h.options.length : Int) + ps.length := by16 (by lia) (by lia)
  rw [pk_eq, hH_cons]
  simp only [numv, List.cons_append, List.getD_cons_zero, List.getD_cons_succ, Nat.reduceAdd, z, q4]
  exact ⟨trivial, trivial, t2, by16 H.i0 H.i1, by16 hf.1 hf.2, trivial, trivial, by32 H.s0 H.s1, by32 H.t0 H.t1⟩
theorem pk_len (h : Hdr) (ps : List Int) : (pk h ps).length = 20 + h.options.length + ps.length := by rw [pk_eq, List.length_append, hH_len]
theorem pk_opts (h : Hdr) (ps : List Int) {j : Nat} (hj : j = h.options.length) : ((pk h ps).drop 20).take j = h.options := by
  rw [pk_eq, hH_cons, hj]
  show (h.options ++ ps).take _ = _
  exact List.take_left
theorem pk_take (h : Hdr) (ps : List Int) {j : Nat} (hj : j = 20 + h.options.length) : (pk h ps).take j = hH h ps.length := take_hH _ _ _ hj
theorem pk_drop (h : Hdr) (ps : List Int) {j : Nat} (hj : j = 20 + h.options.length) : (pk h ps).drop j = ps := drop_hH _ _ _ hj

/-! a for over a range, with a ledger that grows; _law_one of any values, _law_options -/
section
variable {prog : Program} {w : World} {A : Around} {E : Value → Shared → Prop} {s : Shared} {env : Env} {h₀ : Heap} {body : List Stmt} {Q : Flow → Shared → Prop}
theorem range_turns {σ : Type} {x : Str} {px : Pos} {r : Addr} {a₀ b₀ st : Int} {t₀ u₀ v₀ : Tok} {n : Nat} {m₀ : Str → Option Value} (L₀ : σ → Led) (ps : σ → List (Str × Value)) (stored : List Str) (P : Nat → σ → Prop) (c₀ : σ)
    (hh : A.handled = none) (hr : IsRange s.heap r a₀ b₀ st t₀ u₀ v₀) (hsmall : Builtin.Range.small a₀ b₀ st = true) (hn : Builtin.Range.rangeSize a₀ b₀ st = (n : Int)) (F : Fr h₀ env.locals s.heap m₀) (N : News h₀ env.locals s.heap (L₀ c₀)) (hk : ∀ p ∈ ps c₀, m₀ p.1 = some p.2) (hP : P 0 c₀)
    (turn : ∀ c i t (u : Str → Option Value) h tk own (I : Addr), i < n → P i c → (∀ p ∈ L₀ c, p.1 ∉ [I]) → (∀ p ∈ L₀ c₀, p.1 < I) → ((∀ p ∈ own, p.1 ∈ [I]) ∧ ∃ oI, (I, oI) ∈ own) →
      Fr h₀ env.locals h (kstB (fun z => if stored.contains z then u z else m₀ z) (ps c)) → News h₀ env.locals h (L₀ c ++ own) →
      wpAny (model prog w) A (assign (.Name x px) env (.int (a₀ + (i : Int) * st) t)) (fun _ s₃ => wpAny (model prog w) A (execs body env) (TPost h₀ env.locals (TS L₀ ps stored m₀ P (i + 1)) own [I] { s with heap := h, toks := tk } Q) E s₃) E { s with heap := h, toks := tk })
    (done : ∀ c (u : Str → Option Value) h tk, P n c → Fr h₀ env.locals h (kstB (fun z => if stored.contains z then u z else m₀ z) (ps c)) → News h₀ env.locals h (L₀ c) → Q .next { s with heap := h, toks := tk }) :
    wpAny (model prog w) A (pyIter (.ref r)) (fun it s₂ => TurnsAt prog w A h₀ env (.Name x px) body Q E it s₂) E s := by
  refine wpAny_pyIter_range hr hsmall ?_
  have hL : env.locals ∉ [s.heap.objs.size] := fun hI => absurd F.ns.lt ((List.mem_singleton.mp hI) ▸ Nat.lt_irrefl _)
  have W : Walks prog w A s.heap.objs.size [s.heap.objs.size] [s.heap.objs.size] n (fun i v => i < n ∧ ∃ t, v = .int (a₀ + i * st) t)
      (fun i h => IsRangeIter h s.heap.objs.size (a₀ + (i : Nat) * st) ((n : Int) - (i : Nat)) st) := (Walks.range hh _ a₀ st n).bound
  refine turns_core (tk0 := s.toks) (ax := s.heap.objs.size) (KTurns.ofWalks W fun i v s Q E st q => wpAny_of_eq (a := ()) (by rfl) q) (.inr rfl) L₀ ps stored P c₀ (fun i h st => ⟨_, st⟩) hL (next_is_new F) (fun p hp => Heap.lt_size (N p hp).1)
    (by show IsRangeIter _ _ _ _ _; rw [hn]; simpa using Heap.get?_push_size _ rfl) (F.push _) (fun p hp => ⟨Heap.get?_push_of_some _ (N p hp).1, (N p hp).2⟩) hk hP ?_ done
  rintro c i v u h tk own hi ⟨_, t, rfl⟩ hPc hoff hown F₁ N₁
  exact turn c i t u h tk own _ hi hPc hoff (fun p hp => Heap.lt_size (N p hp).1) hown F₁ N₁
end
theorem get_mem {vs : List Value} {d : Int} (h0 : 0 ≤ d) (h1 : d < (vs.length : Int)) : ∃ x, vs[d.toNat]? = some x ∧ x ∈ vs := by
  have hj : d.toNat < vs.length := by lia
  exact ⟨vs[d.toNat], by simp [hj], List.getElem_mem hj⟩
noncomputable def law_oneV_c_S (z : Fra × World × Addr × Obj × Addr × List Value × Nat × Led) : Prop :=
  (fun (F9 : Fra) (w : World) (src : Addr) (o : Obj) (th : Addr) (vs : List Value) (n : Nat) (rest : Led) => ∀ (ho : SrcO o), ∀ (hne : ∀ p ∈ rest, p.1 ≠ src), ∀ (hth : (th, listOf vs.toArray n) ∈ rest), ∀ (h0 : 1 ≤ vs.length), ∀ (h1 : vs.length ≤ 1000), BodK w 365 [.ref src, .ref th] 2 ((src, o) :: rest) (fun r N => ∃ o', N = (src, o') :: rest ∧ SrcO o' ∧ r ∈ vs) F9) (z.1) (z.2.1) (z.2.2.1) (z.2.2.2.1) (z.2.2.2.2.1) (z.2.2.2.2.2.1) (z.2.2.2.2.2.2.1) (z.2.2.2.2.2.2.2)
@[irreducible] noncomputable def law_oneV_c_z : Fra × World × Addr × Obj × Addr × List Value × Nat × Led := wit (fra0, wrl0, 0, listOf #[] 0, 0, [], 0, []) law_oneV_c_S
namespace law_oneV_c_
@[irreducible] noncomputable def F9 : Fra := law_oneV_c_z.1
@[irreducible] noncomputable def w : World := law_oneV_c_z.2.1
@[irreducible] noncomputable def src : Addr := law_oneV_c_z.2.2.1
@[irreducible] noncomputable def o : Obj := law_oneV_c_z.2.2.2.1
@[irreducible] noncomputable def th : Addr := law_oneV_c_z.2.2.2.2.1
@[irreducible] noncomputable def vs : List Value := law_oneV_c_z.2.2.2.2.2.1
@[irreducible] noncomputable def n : Nat := law_oneV_c_z.2.2.2.2.2.2.1
@[irreducible] noncomputable def rest : Led := law_oneV_c_z.2.2.2.2.2.2.2
theorem run : ∀ (ho : SrcO o), ∀ (hne : ∀ p ∈ rest, p.1 ≠ src), ∀ (hth : (th, listOf vs.toArray n) ∈ rest), ∀ (h0 : 1 ≤ vs.length), ∀ (h1 : vs.length ≤ 1000), BodK w 365 [.ref src, .ref th] 2 ((src, o) :: rest) (fun r N => ∃ o', N = (src, o') :: rest ∧ SrcO o' ∧ r ∈ vs) F9 := by
  intro ho hne hth h0 h1
  refine' BodK.enter ?ho ?hb ?_; (case ho => k_is); (case hb => first | (dsimp only [List.map, List.zip, List.zipWith]; done) | (dsimp only [List.map, List.zip, List.zipWith]; exact rfl))
  intro B' F' X' N' T' hd hu hPE hnx hret
  k_steps
  refine kun_lenL (k := (vs.length : Int)) (led_list (by assumption) (by k_mem)) (by simp) (by lia) ?_
  k_steps
  rename (_ < (vs.length : Int)) => hd1
  rename (SrcO _) => hS
  obtain ⟨x, hx, hm⟩ := get_mem (by assumption) hd1
  refine item_listL (led_list (by assumption) (by k_mem)) (by assumption) (by lia) hx ?_
  k_steps
  ((try with_reducible refine hnx _ ?_); exact hret _ _ _ _ ⟨_, rfl, hS, hm⟩ (by k_asm) (by first | k_asm | exact news_subL (by assumption) (by k_extra "sub") | exact news_sub (by assumption) (by intro p hp; (try simp only [List.mem_cons, List.mem_append] at hp ⊢); grind)))
end law_oneV_c_
theorem law_oneV_c (w : World) (src : Addr) (o : Obj) (th : Addr) (vs : List Value) (n : Nat) (rest : Led) (ho : SrcO o) (hne : ∀ p ∈ rest, p.1 ≠ src) (hth : (th, listOf vs.toArray n) ∈ rest) (h0 : 1 ≤ vs.length) (h1 : vs.length ≤ 1000)  : Con w (.ref 365) [.ref src, .ref th] 2 ((src, o) :: rest) (fun r N => ∃ o', N = (src, o') :: rest ∧ SrcO o' ∧ r ∈ vs) := by
  refine' BodK.con ?ho ?hcd ?hb ?hq ?hloc ?hco ?hgen ?hk ?hcell ?hD (fun F9 => @wit_all _ (fra0, wrl0, 0, listOf #[] 0, 0, [], 0, []) law_oneV_c_S (by with_unfolding_all exact law_oneV_c_.run) (F9, w, src, o, th, vs, n, rest) ho hne hth h0 h1); (case ho => k_is); (case hcd => k_is); (case hb => first | (dsimp only [List.map, List.zip, List.zipWith]; done) | (dsimp only [List.map, List.zip, List.zipWith]; exact rfl)); (case hq => first | exact fun _ _ => BindsTo.of_eq rfl | (intro s7 X7; exact binds_K X7 rfl (by k_is) rfl rfl rfl)); (case hloc => exact locs rfl); (case hco => exact rfl); (case hgen => exact rfl); (case hk => exact rfl); (case hcell => decide); (case hD => decide)

theorem law_oneV_c_k (w : World) (src : Addr) (o : Obj) (th : Addr) (vs : List Value) (n : Nat) (rest : Led) (ho : SrcO o) (hne : ∀ p ∈ rest, p.1 ≠ src) (hth : (th, listOf vs.toArray n) ∈ rest) (h0 : 1 ≤ vs.length) (h1 : vs.length ≤ 1000)  :
   Kon w (.ref 365) [.ref src, .ref th] 2 ((src, o) :: rest) (fun K9 => ∀ r9, ∀ o', (SrcO o') → (r9 ∈ vs) → K9 (r9) ((src, o') :: rest))  :=
  Con.kon (law_oneV_c w src o th vs n rest ho hne hth h0 h1) (by
    rintro K9 g9 r9 N9 ⟨v0, rfl, v1, v2⟩
    exact g9 r9 v0 v1 v2)
theorem reg_p17_0 : True := by
  k_with "call ref" => (k_here; (with_reducible show wpAny _ _ (call (Value.ref 365) _) _ _ _); k_dflt (refine' KonT.go ?_ ?_ ?_ ?_ ?_ ?_ ?_ ?_ ?_ ?_; walk_at "side 1"; (any_goals ((with_reducible show Kon _ _ _ _ _ _); exact (law_oneV_c_k _ _ _ _ _ _ _ (by assumption) (by k_all) (by k_mem) (by first | lia | exact Nat.le_of_ble_eq_true rfl) (by first | lia | exact Nat.le_of_ble_eq_true rfl)))); walk_at "side 9"); intro _ _ _ _ _ _ _ _)
  k_with "call ref" => (k_here; (with_reducible show wpAny _ _ (call (Value.ref 365) _) _ _ _); k_dflt (refine' KonT.go ?_ ?_ ?_ ?_ ?_ ?_ ?_ ?_ ?_ ?_; walk_at "side 1"; (any_goals ((with_reducible show Kon _ _ _ _ _ _); exact (law_one_c_k _ _ _ _ _ _ _ _ (by assumption) (by k_all) (by k_mem) (by first | assumption | (repeat' (first | exact IntsAre.nil | refine' IntsAre.cons _ _ ?_))) (by first | lia | exact Nat.le_of_ble_eq_true rfl) (by first | lia | exact Nat.le_of_ble_eq_true rfl)))); walk_at "side 9"); intro _ _ _ _ _ _ _ _ _)
  k_with "exec For Name Call cons nil" => (k_here; (with_unfolding_all refine' For_turns (by assumption) ?_; k_whole))
  trivial

/-! two tuples or lists whose items are the same -/
section
open PySem.SeqAt
theorem eqAt_int {A : Around} {s : Shared} {a b : Int} {t u : Tok} (h : a = b) : EqAt A s (.int a t) (.int b u) true := by
  have e := EqAt.int_int (A := A) (s := s) a t b u
  rw [h] at e ⊢
  simpa using e
theorem eqAt_bool {A : Around} {s : Shared} {a b : Bool} (h : a = b) : EqAt A s (.bool a) (.bool b) true := by
  subst h; exact EqAt.same _
theorem eqAt_bytes {A : Around} {s : Shared} {b c : Array UInt8} {ks ls : List Int} {t u : Tok} (hb : BI b = ks) (hc : BI c = ls) (h : ks = ls) : EqAt A s (.bytes b t) (.bytes c u) true := fun prog w E Q hq => by
  unfold eqBool
  refine wpAny_holding ?_
  refine wpAny_ite_split (fun _ => ?_) (fun _ => ?_)
  · exact wpAny_bind (wpAny_rule (wpAny_pure hq))
  · refine wpAny_bind ?_
    show wpAny _ _ (compareOp .Eq (.bytes b t) (.bytes c u)) _ _ _
    refine b_eq hb hc ?_
    rw [decide_eq_true h]
    exact wpAny_truthy_bool hq
inductive SmAll (A : Around) (s : Shared) : List Value → List Value → Prop
  | nil : SmAll A s [] []
  | cons {v v' : Value} {r r' : List Value} : EqAt A s v v' true → SmAll A s r r' → SmAll A s (v :: r) (v' :: r')
theorem SmAll.len {A : Around} {s : Shared} {vs ws : List Value} (h : SmAll A s vs ws) : vs.length = ws.length := by
  induction h with
  | nil => rfl
  | cons _ _ ih => rw [List.length_cons, List.length_cons, ih]
theorem SmAll.get {A : Around} {s : Shared} {vs ws : List Value} (h : SmAll A s vs ws) : ∀ (j : Nat) (h1 : j < vs.length) (h2 : j < ws.length), EqAt A s vs[j] ws[j] true := by
  induction h with
  | nil => intro j h1; exact absurd h1 (Nat.not_lt_zero _)
  | cons hd _ ih =>
    intro j h1 h2
    cases j with
    | zero => exact hd
    | succ j => exact ih j (Nat.lt_of_succ_lt_succ h1) (Nat.lt_of_succ_lt_succ h2)
section
variable {prog : Program} {w : World} {A : Around} {E : Value → Shared → Prop} {s : Shared} {Q : Value → Shared → Prop} {g : Heap} {L a b : Addr} {news : Led} {oa ob : Obj} {vs ws : List Value} {na nb : Nat}
theorem sm_tup (N : News g L s.heap news) (ha : (a, oa) ∈ news) (ca : oa.cls = .type "tuple") (da : oa.data = .seq vs.toArray na) (hb : (b, ob) ∈ news) (cb : ob.cls = .type "tuple") (db : ob.data = .seq ws.toArray nb) (hu : A.units < cLine)
    (sm : SmAll A.in1 s vs ws) (h : Q (.bool true) s) : wpAny (model prog w) A (compareOp .Eq (.ref a) (.ref b)) Q E s := by
  have hl : s.heap.IsTuple a vs.toArray := ⟨_, (N _ ha).1, ca, _, da⟩
  have hl' : s.heap.IsTuple b ws.toArray := ⟨_, (N _ hb).1, cb, _, db⟩
  refine RcAt.tuples (e := fun _ => true) hl hl' hu (fun j h1 h2 => by simpa using sm.get j (by simpa using h1) (by simpa using h2)) prog w E Q ?_
  have e := sm.len
  have e2 : ((List.range (min vs.toArray.size ws.toArray.size)).all (fun _ => true) && vs.toArray.size == ws.toArray.size) = true := by simp [e]
  rw [e2]; exact h
theorem sm_tupN (N : News g L s.heap news) (ha : (a, oa) ∈ news) (ca : oa.cls = .type "tuple") (da : oa.data = .seq vs.toArray na) (hb : (b, ob) ∈ news) (cb : ob.cls = .type "tuple") (db : ob.data = .seq ws.toArray nb) (hu : A.units < cLine)
    (sm : SmAll A.in1 s vs ws) (h : Q (.bool false) s) : wpAny (model prog w) A (compareOp .NotEq (.ref a) (.ref b)) Q E s := by
  have hl : s.heap.IsTuple a vs.toArray := ⟨_, (N _ ha).1, ca, _, da⟩
  have hl' : s.heap.IsTuple b ws.toArray := ⟨_, (N _ hb).1, cb, _, db⟩
  refine RcNeAt.tuples (e := fun _ => true) hl hl' hu (fun j h1 h2 => by simpa using sm.get j (by simpa using h1) (by simpa using h2)) prog w E Q ?_
  have e := sm.len
  have e2 : ((List.range (min vs.toArray.size ws.toArray.size)).all (fun _ => true) && vs.toArray.size == ws.toArray.size) = true := by simp [e]
  rw [e2]; exact h
theorem sm_lst (N : News g L s.heap news) (ha : (a, oa) ∈ news) (ca : oa.cls = .type "list") (da : oa.data = .seq vs.toArray na) (hb : (b, ob) ∈ news) (cb : ob.cls = .type "list") (db : ob.data = .seq ws.toArray nb) (hu : A.units < cLine)
    (sm : SmAll A.in1 s vs ws) (h : Q (.bool true) s) : wpAny (model prog w) A (compareOp .Eq (.ref a) (.ref b)) Q E s := by
  have hl : s.heap.IsList a vs.toArray := ⟨_, (N _ ha).1, ca, _, da⟩
  have hl' : s.heap.IsList b ws.toArray := ⟨_, (N _ hb).1, cb, _, db⟩
  have e := sm.len
  refine RcAt.lists (e := fun _ => true) hl hl' (by simpa using e) hu (fun j h1 h2 => by simpa using sm.get j (by simpa using h1) (by simpa using h2)) prog w E Q ?_
  have e2 : ((List.range vs.toArray.size).all (fun _ => true)) = true := by simp
  rw [e2]; exact h
theorem sm_lstN (N : News g L s.heap news) (ha : (a, oa) ∈ news) (ca : oa.cls = .type "list") (da : oa.data = .seq vs.toArray na) (hb : (b, ob) ∈ news) (cb : ob.cls = .type "list") (db : ob.data = .seq ws.toArray nb) (hu : A.units < cLine)
    (sm : SmAll A.in1 s vs ws) (h : Q (.bool false) s) : wpAny (model prog w) A (compareOp .NotEq (.ref a) (.ref b)) Q E s := by
  have hl : s.heap.IsList a vs.toArray := ⟨_, (N _ ha).1, ca, _, da⟩
  have hl' : s.heap.IsList b ws.toArray := ⟨_, (N _ hb).1, cb, _, db⟩
  have e := sm.len
  refine RcNeAt.lists (e := fun _ => true) hl hl' (by simpa using e) hu (fun j h1 h2 => by simpa using sm.get j (by simpa using h1) (by simpa using h2)) prog w E Q ?_
  have e2 : ((List.range vs.toArray.size).all (fun _ => true)) = true := by simp
  rw [e2]; exact h
end
/-- an option's pair against another with the same data -/
theorem eqAt_pair {A : Around} {s : Shared} {g : Heap} {L : Addr} {news : Led} {d d' : OD} (N : News g L s.heap news) (hd : d.ent ∈ news) (hd' : d'.ent ∈ news) (hk : d.k = d'.k) (hb : BI d.b = BI d'.b) (hu : A.units < cLine) : EqAt A s (.ref d.a) (.ref d'.a) true := by
  by_cases e : d.a = d'.a
  · rw [e]; exact EqAt.same _
  · refine EqAt.of_refs e fun prog w E Q h => ?_
    exact sm_tup N hd rfl rfl hd' rfl rfl hu (.cons (eqAt_int hk) (.cons (eqAt_bytes rfl rfl hb) .nil)) h
theorem smAll_opts {A : Around} {s : Shared} {g : Heap} {L : Addr} {news : Led} (N : News g L s.heap news) (hu : A.units < cLine) : ∀ {ds ds' : List OD}, (∀ d ∈ ds, d.ent ∈ news) → (∀ d ∈ ds', d.ent ∈ news) → optsOf ds = optsOf ds' → SmAll A s (optR ds) (optR ds')
  | [], [], _, _, _ => .nil
  | [], _ :: _, _, _, h => by simp [optsOf] at h
  | _ :: _, [], _, _, h => by simp [optsOf] at h
  | d :: r, d' :: r', h1, h2, h => by
    simp only [optsOf, List.map_cons, List.cons.injEq, Prod.mk.injEq] at h
    exact .cons (eqAt_pair N (h1 _ (.head _)) (h2 _ (.head _)) h.1.1 h.1.2 hu) (smAll_opts N hu (fun e he => h1 e (.tail _ he)) (fun e he => h2 e (.tail _ he)) h.2)
theorem optL_mem {ds : List OD} {l : Led} (h : ∀ p ∈ optL ds, p ∈ l) : ∀ d ∈ ds, d.ent ∈ l := fun d hd => h _ (mem_optL hd)
end
theorem reg_p17a_0 : True := by
  k_with "compareOp NotEq ref ref" => (k_here; (with_reducible show wpAny _ _ (compareOp CmpOp.NotEq (Value.ref _) (Value.ref _)) _ _ _); (with_reducible rename News _ _ _ _ => N9'); k_dflt (refine' ke_ne_ints (led_list N9' ?a) (led_list N9' ?b) ?i ?j ?hu ?_; (case a => k_mem); (case b => k_mem); (case i => first | assumption | (repeat' (first | exact IntsAre.nil | refine' IntsAre.cons _ _ ?_))); (case j => first | assumption | (repeat' (first | exact IntsAre.nil | refine' IntsAre.cons _ _ ?_))); (case hu => ktr_units)); (try dsimp only))
  k_with "compareOp Eq ref ref" => (k_here; (with_reducible show wpAny _ _ (compareOp CmpOp.Eq (Value.ref _) (Value.ref _)) _ _ _); (with_reducible rename News _ _ _ _ => N9'); k_dflt (refine' ke_eq_ints (led_list N9' ?a) (led_list N9' ?b) ?i ?j ?hu ?_; (case a => k_mem); (case b => k_mem); (case i => first | assumption | (repeat' (first | exact IntsAre.nil | refine' IntsAre.cons _ _ ?_))); (case j => first | assumption | (repeat' (first | exact IntsAre.nil | refine' IntsAre.cons _ _ ?_))); (case hu => ktr_units)); (try dsimp only))
  k_with "compareOp NotEq ref ref" => (k_here; (with_reducible show wpAny _ _ (compareOp CmpOp.NotEq (Value.ref _) (Value.ref _)) _ _ _); (with_reducible rename News _ _ _ _ => N9'); k_dflt (refine' sm_lstN N9' ?a ?ca ?da ?b ?cb ?db ?hu ?sm ?_; (case a => k_mem); (case ca => rfl); (case da => rfl); (case b => k_mem); (case cb => rfl); (case db => rfl); (case hu => ktr_units); (case sm => (repeat' (first | exact SmAll.nil | (refine SmAll.cons ?_ ?_))) <;> (first | exact PySem.SeqAt.EqAt.same _ | (refine eqAt_int ?_; first | rfl | assumption | lia | (symm; assumption)) | (refine eqAt_bool ?_; first | rfl | assumption | lia | (symm; assumption)) | (refine eqAt_bytes (by assumption) (by assumption) ?_; first | rfl | assumption | lia | (symm; assumption))))))
  k_with "compareOp NotEq ref ref" => (k_here; (with_reducible show wpAny _ _ (compareOp CmpOp.NotEq (Value.ref _) (Value.ref _)) _ _ _); (with_reducible rename News _ _ _ _ => N9'); k_dflt (refine' sm_tupN N9' ?a ?ca ?da ?b ?cb ?db ?hu ?sm ?_; (case a => k_mem); (case ca => rfl); (case da => rfl); (case b => k_mem); (case cb => rfl); (case db => rfl); (case hu => ktr_units); (case sm => (repeat' (first | exact SmAll.nil | (refine SmAll.cons ?_ ?_))) <;> (first | exact PySem.SeqAt.EqAt.same _ | (refine eqAt_int ?_; first | rfl | assumption | lia | (symm; assumption)) | (refine eqAt_bool ?_; first | rfl | assumption | lia | (symm; assumption)) | (refine eqAt_bytes (by assumption) (by assumption) ?_; first | rfl | assumption | lia | (symm; assumption))))))
  trivial

/-! t[:b] and t[a:] of a tuple of the ledger, t + u -/
section
open PySem.Calls
variable {prog : Program} {w : World} {A : Around} {E : Value → Shared → Prop} {s : Shared} {h₀ : Heap} {L : Addr} {m : Str → Option Value} {news : Led}
theorem adjust_upto (b n : Nat) (hb : b ≤ n) : Builtin.Slice.sliceAdjust none (some (b : Int)) 1 (n : Int) = (0, (b : Int)) := by
  unfold Builtin.Slice.sliceAdjust
  have h1 : ¬ ((1 : Int) < 0) := by lia
  have h2 : ¬ ((b : Int) < 0) := by lia
  simp only [h1, h2, if_false]
  congr 1
  lia
theorem places_upto (b : Nat) : Builtin.Slice.slicePlaces 0 (b : Int) 1 = b := by
  unfold Builtin.Slice.slicePlaces
  have h1 : (1 : Int) > 0 := by lia
  simp only [h1, if_true, Int.ediv_one]
  split <;> lia
theorem sliceApplied_upto {sl : Addr} {b n : Nat} {u : Tok} {Q : Int × Int × Nat → Shared → Prop} (hs : s.heap.IsSliceOf sl .none (.int b u) .none) (hb : b ≤ n) (h : Q (0, 1, b) s) :
    wpAny (model prog w) A (Builtin.Slice.sliceApplied (.ref sl) (pure (n : Int))) Q E s := by
  obtain ⟨os, hos, hcs, hds⟩ := id hs
  unfold Builtin.Slice.sliceApplied Builtin.Slice.sliceFields
  refine wpAny_bind (wpAny_bind (wpAny_field hos hds (x := .none) rfl (wpAny_bind (wpAny_field hos hds (x := .int b u) rfl (wpAny_bind (wpAny_field hos hds (x := .none) rfl (wpAny_pure ?_)))))))
  refine wpAny_bind (slicePart_none ?_)
  show wpAny _ _ (if ((1 : Int) == 0) = true then _ else _) _ _ s
  rw [if_neg (by decide)]
  refine wpAny_bind (slicePart_none (wpAny_bind (slicePart_int (wpAny_bind (wpAny_pure ?_)))))
  show wpAny _ _ (match Builtin.Slice.sliceAdjust none (some (b : Int)) 1 (n : Int) with | (lo, hi) => pure (lo, (1 : Int), Builtin.Slice.slicePlaces lo hi 1)) _ _ s
  rw [adjust_upto b n hb]
  show wpAny _ _ (pure ((0 : Int), (1 : Int), Builtin.Slice.slicePlaces 0 (b : Int) 1)) _ _ s
  rw [places_upto b]
  exact wpAny_pure h
theorem pick_upto (xs : Array Value) (b : Nat) : ((List.range b).filterMap fun (k : Nat) => xs[((0 : Int) + (k : Int) * 1).toNat]?).toArray = (xs.toList.take b).toArray := by
  have e : (fun (k : Nat) => xs[((0 : Int) + (k : Int) * 1).toNat]?) = fun k => xs[k]? := by
    funext k
    have : ((0 : Int) + (k : Int) * 1).toNat = k := by lia
    rw [this]
  rw [e]
  have := pick_run xs 0 b
  simp only [Nat.zero_add, List.map_id', List.drop_zero] at this
  rw [this]
theorem getItem_tuple_upto {t sl : Addr} {items : Array Value} {b : Nat} {u : Tok} {Q : Value → Shared → Prop} (ht : IsTup s.heap t items) (hs : s.heap.IsSliceOf sl .none (.int b u) .none) (hb : b < items.size)
    (h : Q (.ref s.heap.objs.size) { s with heap := s.heap.push { cls := .type "tuple", data := .seq (items.toList.take b).toArray } })
    (hsz : items.size ≤ sizeLine) : wpAny (model prog w) A (getItem (.ref t) (.ref sl)) Q E s := by
  have htake : sizeOk (.seq (items.toList.take b).toArray) := by
    show (items.toList.take b).toArray.size ≤ sizeLine
    rw [List.size_toArray, List.length_take, Array.length_toList]
    lia
  obtain ⟨os, hos, hcs, hds⟩ := id hs
  have hTs : s.TypeIs (.ref sl) "slice" := ⟨os, hos, hcs⟩
  unfold getItem
  try with_reducible refine wpAny_holding ?_
  first | refine wpAny_bind (wpAny_pure ?_) | skip
  refine wpAny_bind (wpAny_sequenceKey ht.typeIs (by decide) ?_)
  refine wpAny_bind (wpAny_callSpecial?_slot (name := Str.ofString "__getitem__") ht.typeIs slot_tuple_getitem
    (wpAny_call_entry slot_tuple_getitem ht.typeIs entry_tuple_getitem ?_ (args_tuple_getitem _ _)))
  show wpAny _ _ (Builtin.Tuple.tupleItemsOf (.ref t) >>= _) _ _ s
  refine wpAny_bind (tupleItemsOf_ ht ?_)
  refine wpAny_bind (wpAny_typeOf hTs ?_)
  rw [if_pos (by decide)]
  refine wpAny_bind (sliceApplied_upto hs (Nat.le_of_lt hb) ?_)
  have hno : ¬ (((0 : Int) == 0 && (1 : Int) == 1 && b == items.size) = true) := by
    have : (b == items.size) = false := by rw [beq_eq_false_iff_ne]; lia
    rw [this]; simp
  show wpAny _ _ (if ((0 : Int) == 0 && (1 : Int) == 1 && b == items.size) = true then _ else _) _ _ s
  rw [if_neg hno, pick_upto items b]
  first
    | exact wpAny_bind (m := Builtin.Tuple.tupleExact _) (wpAny_newObj_type (wpAny_pure ⟨_, rfl, wpAny_pure h⟩) htake)
    | exact wpAny_bind (m := Builtin.Tuple.tupleExact _) (wpAny_newObj_type (wpAny_bind (wpAny_pure (wpAny_pure ⟨_, rfl, wpAny_pure h⟩))) htake)
    | exact wpAny_bind (wpAny_bind (m := Builtin.Tuple.tupleExact _) (wpAny_newObj_type (wpAny_pure (wpAny_pure ⟨_, rfl, wpAny_pure h⟩)) htake))
    | exact wpAny_bind (wpAny_bind (m := Builtin.Tuple.tupleExact _) (wpAny_newObj_type (wpAny_pure ⟨_, rfl, wpAny_pure h⟩) htake))
theorem slice_tuple_upto {value slice : Expr} {t : Addr} {vs : List Value} {b : Nat} {u : Tok} {Q : Value → Shared → Prop}
    (F : Fr h₀ L s.heap m) (N : News h₀ L s.heap news) (ht : IsTup s.heap t vs.toArray) (hb : b < vs.length) (hsz : vs.length ≤ 1000)
    (hs : subscripted slice false (.ref t) (.ref s.heap.objs.size) = operate [.ref s.heap.objs.size, .ref t] (getItem (.ref t) (.ref s.heap.objs.size)))
    (hg : ∀ r, letTemporaryGo value (.ref t) r = pure ())
    (h : ∀ D h', Fr h₀ L h' m → News h₀ L h' ((D, Obj.mk (.type "tuple") none (.seq (vs.take b).toArray) #[]) :: news) → (∀ p ∈ news, p.1 < D) → Q (.ref D) { s with heap := h' }) :
    wpAny (model prog w) A (subscriptTail value slice (.ref t) (.ref s.heap.objs.size)) Q E { s with heap := s.heap.push { cls := .type "slice", data := .fields #[.none, .int b u, .none] } } := by
  have ht' : IsTup (s.heap.push { cls := .type "slice", data := .fields #[.none, .int b u, .none] }) t vs.toArray := ht.keeps fun _ _ e => Heap.get?_push_of_some _ e
  refine subscriptTail_ops (s := { s with heap := s.heap.push { cls := .type "slice", data := .fields #[.none, .int b u, .none] } }) ht'.typeIs slot_tuple_getitem.lookup
    (getItem_tuple_upto ht' (Heap.IsSliceOf.new ..) (by simpa using hb) ?_ (by rw [List.size_toArray, sizeLine_eq]; lia)) hs hg
  have N1 := News.push (F.push { cls := .type "slice", data := .fields #[.none, .int b u, .none] }) (N.grown fun _ _ e => Heap.get?_push_of_some _ e) { cls := .type "tuple", data := .seq (vs.take b).toArray }
  rw [Heap.size_push] at N1
  show Q (.ref (s.heap.push _).objs.size) _
  rw [Heap.size_push]
  exact h _ _ ((F.push _).push _) N1 fun p hp => Nat.lt_succ_of_lt (Heap.lt_size (N p hp).1)
theorem slice_tuple_fromN {value slice : Expr} {t : Addr} {vs : List Value} {a : Nat} {u : Tok} {Q : Value → Shared → Prop}
    (F : Fr h₀ L s.heap m) (N : News h₀ L s.heap news) (ht : IsTup s.heap t vs.toArray) (h1 : 1 ≤ a) (ha : a ≤ vs.length) (hsz : vs.length ≤ 1000)
    (hs : subscripted slice false (.ref t) (.ref s.heap.objs.size) = operate [.ref s.heap.objs.size, .ref t] (getItem (.ref t) (.ref s.heap.objs.size)))
    (hg : ∀ r, letTemporaryGo value (.ref t) r = pure ())
    (h : ∀ D h', Fr h₀ L h' m → News h₀ L h' ((D, Obj.mk (.type "tuple") none (.seq (vs.drop a).toArray) #[]) :: news) → (∀ p ∈ news, p.1 < D) → Q (.ref D) { s with heap := h' }) :
    wpAny (model prog w) A (subscriptTail value slice (.ref t) (.ref s.heap.objs.size)) Q E { s with heap := s.heap.push { cls := .type "slice", data := .fields #[.int a u, .none, .none] } } :=
  slice_tuple_from F N ht h1 (by simpa using ha) (fun h' F' N' => h _ h' F' N' fun p hp => Nat.lt_succ_of_lt (Heap.lt_size (N p hp).1)) hs hg (by rw [List.size_toArray, sizeLine_eq]; lia)
theorem add_tuplesN {t b : Addr} {vs ws : List Value} {Q : Value → Shared → Prop} (F : Fr h₀ L s.heap m) (N : News h₀ L s.heap news) (ht : IsTup s.heap t vs.toArray) (hb : IsTup s.heap b ws.toArray) (h0 : vs ≠ []) (h1 : ws ≠ []) (hsz : vs.length + ws.length ≤ 1000)
    (h : ∀ D h', Fr h₀ L h' m → News h₀ L h' ((D, Obj.mk (.type "tuple") none (.seq (vs ++ ws).toArray) #[]) :: news) → (∀ p ∈ news, p.1 < D) → Q (.ref D) { s with heap := h' }) :
    wpAny (model prog w) A (binaryOp .Add (.ref t) (.ref b)) Q E s :=
  add_tuples F N ht hb (fun e => absurd e h0) (fun _ e => absurd e h1) (fun _ _ h' F' N' => h _ h' F' N' fun p hp => Heap.lt_size (N p hp).1) (by rw [sizeLine_eq]; lia)
end
theorem reg_p17b_0 : True := by
  k_with "subscriptTail Name Slice ref ref" => (k_here; (with_reducible show wpAny _ _ (subscriptTail _ (Expr.Slice none (some _) none _) (Value.ref _) (Value.ref _)) _ _ _); (with_reducible rename Fr _ _ _ _ => F'); (with_reducible rename News _ _ _ _ => N'); k_dflt ((refine' slice_tuple_upto (b := 4) (s := ⟨_, _, _, _, _⟩) F' N' (News.isTup N' ?k1) ?k2 ?k3 ?k4 ?k5 ?_); (case k1 => k_mem); (case k2 => exact Nat.le_of_ble_eq_true rfl); (case k3 => exact Nat.le_of_ble_eq_true rfl); (case k4 => with_unfolding_all rfl); (case k5 => (intro _; with_unfolding_all rfl))); intro _ _ F' N' l1; (dsimp only [List.take, List.drop] at N'); (try k_lt l1); (try dsimp only))
  k_with "subscriptTail Name Slice ref ref" => (k_here; (with_reducible show wpAny _ _ (subscriptTail _ (Expr.Slice (some _) none none _) (Value.ref _) (Value.ref _)) _ _ _); (with_reducible rename Fr _ _ _ _ => F'); (with_reducible rename News _ _ _ _ => N'); k_dflt ((refine' slice_tuple_fromN (a := 5) (s := ⟨_, _, _, _, _⟩) F' N' (News.isTup N' ?k1) ?k0 ?k2 ?k3 ?k4 ?k5 ?_); (case k1 => k_mem); (case k0 => exact Nat.le_of_ble_eq_true rfl); (case k2 => exact Nat.le_of_ble_eq_true rfl); (case k3 => exact Nat.le_of_ble_eq_true rfl); (case k4 => with_unfolding_all rfl); (case k5 => (intro _; with_unfolding_all rfl))); intro _ _ F' N' l1; (dsimp only [List.take, List.drop] at N'); (try k_lt l1); (try dsimp only))
  k_with "binaryOp Add ref ref" => (k_here; (with_reducible rename Fr _ _ _ _ => F'); (with_reducible rename News _ _ _ _ => N'); k_dflt ((refine' add_tuplesN F' N' (News.isTup N' ?k1) (News.isTup N' ?k2) ?k3 ?k4 ?k5 ?_); (case k1 => k_mem); (case k2 => k_mem); (case k3 => exact List.cons_ne_nil _ _); (case k4 => exact List.cons_ne_nil _ _); (case k5 => exact Nat.le_of_ble_eq_true rfl)); intro _ _ F' N' l1; (dsimp only [List.cons_append, List.nil_append] at N'); (try k_lt l1); (try dsimp only))
  trivial

/-! _law_options -/
theorem reg_p18_0 : True := by
  k_with "kba_size" => first | assumption | k_extra "size" | ((simp only [List.length_cons, List.length_nil, List.length_append, List.length_replicate, List.length_take, List.length_drop, List.length_map, List.length_range, w16_len, w32_len]); lia)
  trivial
/-- an option that the law draws -/
noncomputable def drawOk (q : Int × List Int) : Prop := (q.1 = 1 ∧ q.2 = []) ∨ (q.1 ∈ ([7, 68, 130, 131, 148] : List Int) ∧ ∃ t, q.2 = 4 :: t ∧ t.length ≤ 9)
theorem small_0 {b : Int} (h0 : 0 ≤ b) (h1 : b ≤ 1000) : Builtin.Range.small 0 b 1 = true := small_pos (by lia) (by lia) (by lia) (by lia) (by lia) (by lia)
theorem rangeSize_0 {b : Int} (h0 : 0 ≤ b) : Builtin.Range.rangeSize 0 b 1 = (b.toNat : Int) := rangeSize_posN (by lia) (by lia)
theorem draw_len {v : Int} (h : v ∈ ([0, 2, 3, 9] : List Int)) : 0 ≤ v ∧ v ≤ 9 := by
  simp only [List.mem_cons, List.not_mem_nil, or_false] at h
  lia
theorem inB_map {kd : Int} {n : Nat} : InB ((List.range n).map fun (j : Nat) => (kd + 3 * (j : Int)) % 256) := by
  intro k hk
  obtain ⟨j, _, rfl⟩ := List.mem_map.mp hk
  lia
theorem draw_kind {v : Int} (h : v ∈ ([1, 7, 68, 130, 131, 148] : List Int)) (h1 : ¬ v = 1) : v ∈ ([7, 68, 130, 131, 148] : List Int) := by
  rcases List.mem_cons.mp h with h | h
  · exact absurd h h1
  · exact h
theorem opt_ok {ds : List OD} {d : OD} (h : ∀ d ∈ ds, drawOk (d.k, BI d.b)) (hd : drawOk (d.k, BI d.b)) : ∀ e ∈ ds ++ [d], drawOk (e.k, BI e.b) := fun e he =>
  (List.mem_append.mp he).elim (h e) fun z => by rw [List.mem_singleton.mp z]; exact hd
theorem opt_own {ds : List OD} {rest own r9 all : Led} (hr9 : r9 = optL ds ++ rest ++ own) (h : ∀ p ∈ r9, p ∈ all) : ∀ p ∈ own, p ∈ all := fun p hp => h p (by rw [hr9]; exact List.mem_append_right _ hp)
theorem opt_in {ds : List OD} {rest own r9 all : Led} {src la C D : Addr} {o oc : Obj} {n : Nat} {k : Int} {kt bt : TC} {b : Array UInt8} (hr9 : r9 = optL ds ++ rest ++ own)
    (h1 : (D, Obj.mk (.type "tuple") none (.seq #[.int k kt, .bytes b bt]) #[]) ∈ all) (h2 : (la, listOf ((optR ds).toArray.push (.ref D)) (n + 1)) ∈ all) (h3 : (src, o) ∈ all) (h4 : (C, oc) ∈ all) (h : ∀ p ∈ r9, p ∈ all) :
    ∀ p ∈ (src, o) :: (la, listOf (optR (ds ++ [⟨D, k, kt, b, bt⟩])).toArray (n + 1)) :: (C, oc) :: (optL (ds ++ [⟨D, k, kt, b, bt⟩]) ++ rest), p ∈ all := by
  intro p hp
  rw [optR_snoc, optL_snoc, ← List.push_toArray] at hp
  rcases List.mem_cons.mp hp with rfl | hp
  · exact h3
  rcases List.mem_cons.mp hp with rfl | hp
  · exact h2
  rcases List.mem_cons.mp hp with rfl | hp
  · exact h4
  rcases List.mem_append.mp hp with hp | hp
  · rcases List.mem_append.mp hp with hp | hp
    · exact h p (by rw [hr9]; exact List.mem_append_left _ (List.mem_append_left _ hp))
    · rw [List.mem_singleton.mp hp]; exact h1
  · exact h p (by rw [hr9]; exact List.mem_append_left _ (List.mem_append_right _ hp))
theorem opt_hw {ds : List OD} {rest own r9 : Led} {src la C D I : Addr} {o o' l l' oc oc' oI : Obj} {k : Int} {kt bt : TC} {b : Array UInt8} (hr9 : r9 = optL ds ++ rest ++ own) (hI : (I, oI) ∈ own) (hD : AllLt D r9)
    (hoff : ∀ p ∈ (src, o) :: (la, l) :: (C, oc) :: (optL ds ++ rest), p.1 ∉ [I]) : ∀ p ∈ (src, o') :: (la, l') :: (C, oc') :: (optL (ds ++ [⟨D, k, kt, b, bt⟩]) ++ rest), p.1 ∉ [I] := by
  intro p hp
  rw [optL_snoc] at hp
  rcases List.mem_cons.mp hp with rfl | hp
  · exact hoff (src, o) (.head _)
  rcases List.mem_cons.mp hp with rfl | hp
  · exact hoff (la, l) (.tail _ (.head _))
  rcases List.mem_cons.mp hp with rfl | hp
  · exact hoff (C, oc) (.tail _ (.tail _ (.head _)))
  rcases List.mem_append.mp hp with hp | hp
  · rcases List.mem_append.mp hp with hp | hp
    · exact hoff p (.tail _ (.tail _ (.tail _ (List.mem_append_left _ hp))))
    · rw [List.mem_singleton.mp hp]
      intro e
      have z := allLt_mem hD (p := (I, oI)) (by rw [hr9]; exact List.mem_append_right _ hI)
      exact absurd (List.mem_singleton.mp e) (Nat.ne_of_gt z)
  · exact hoff p (.tail _ (.tail _ (.tail _ (List.mem_append_right _ hp))))
structure OpS where
  o : Obj
  oc : Obj
  ds : List OD
  n : Nat
noncomputable def law_options_c_S (z : Fra × World × Addr × Obj × Led) : Prop :=
  (fun (F9 : Fra) (w : World) (src : Addr) (o : Obj) (rest : Led) => ∀ (ho : SrcO o), ∀ (hne : ∀ p ∈ rest, p.1 ≠ src), BodKC w 370 [.ref src] (Str.ofString "kind")  5 ((src, o) :: rest) (fun r N => ∃ o' la ds n, r = .ref la ∧ N = (src, o') :: (la, listOf (optR ds).toArray n) :: (optL ds ++ rest) ∧ SrcO o' ∧ ds.length ≤ 3 ∧ (∀ d ∈ ds, drawOk (d.k, BI d.b)) ∧ (∀ p ∈ optL ds, la < p.1) ∧ (∀ p ∈ rest, p.1 < la) ∧ src < la) F9) (z.1) (z.2.1) (z.2.2.1) (z.2.2.2.1) (z.2.2.2.2)
@[irreducible] noncomputable def law_options_c_z : Fra × World × Addr × Obj × Led := wit (fra0, wrl0, 0, listOf #[] 0, []) law_options_c_S
namespace law_options_c_
@[irreducible] noncomputable def F9 : Fra := law_options_c_z.1
@[irreducible] noncomputable def w : World := law_options_c_z.2.1
@[irreducible] noncomputable def src : Addr := law_options_c_z.2.2.1
@[irreducible] noncomputable def o : Obj := law_options_c_z.2.2.2.1
@[irreducible] noncomputable def rest : Led := law_options_c_z.2.2.2.2
theorem run : ∀ (ho : SrcO o), ∀ (hne : ∀ p ∈ rest, p.1 ≠ src), BodKC w 370 [.ref src] (Str.ofString "kind")  5 ((src, o) :: rest) (fun r N => ∃ o' la ds n, r = .ref la ∧ N = (src, o') :: (la, listOf (optR ds).toArray n) :: (optL ds ++ rest) ∧ SrcO o' ∧ ds.length ≤ 3 ∧ (∀ d ∈ ds, drawOk (d.k, BI d.b)) ∧ (∀ p ∈ optL ds, la < p.1) ∧ (∀ p ∈ rest, p.1 < la) ∧ src < la) F9 := by
  intro ho hne
  refine' BodKC.enter ?ho ?hb ?_; (case ho => k_is); (case hb => first | (dsimp only [List.map, List.zip, List.zipWith]; done) | (dsimp only [List.map, List.zip, List.zipWith]; exact rfl))
  intro B' F' X' N' dc' T' hd hu l1 hPE hnx hret; (try k_lt l1)
  k_steps
  rename_i la h0 lz1 h1 lF1 lN1 h2 tk2 lF2 o2 d2 td2 hS hd1 hd2 lN2 h3 tk3 t1 u1 v1 rg lF3 lN3 hkp
  clear lF1 lN1 lF2 lN2
  obtain ⟨x1, x2, x3⟩ := lz1
  refine range_turns (σ := OpS) (n := d2.toNat) (fun c => (src, c.o) :: (la, listOf (optR c.ds).toArray c.n) :: (_, c.oc) :: (optL c.ds ++ rest)) (fun c => [(Str.ofString "found", .ref la)]) [Str.ofString "turn", Str.ofString "octets"]
    (fun i c => SrcO c.o ∧ (∃ v, c.oc.data = .cell v) ∧ c.ds.length = i ∧ (∀ d ∈ c.ds, drawOk (d.k, BI d.b)) ∧ (∀ p ∈ optL c.ds, la < p.1)) ⟨_, _, [], 0⟩ rfl rg (small_pos (by lia) (by lia) (by lia) (by lia) (by lia) (by lia)) (rangeSize_posN (by lia) (by lia)) lF3 lN3 (by intro p hp; rw [List.mem_singleton.mp hp]; rfl) ⟨hS, ⟨_, dc'⟩, rfl, (fun _ h => nomatch h), (fun _ h => nomatch h)⟩ ?turn ?done
  case turn =>
    rintro ⟨o9, oc9, ds, n9⟩ i₉ t₉ u₉ h₉ tk₉ own I hi ⟨hS9, ⟨vc9, dc9⟩, hdl, hok9, hab9⟩ hoff hlt ⟨hown, oI, hinI⟩ F₁ N₁
    clear lF3 lN3
    dsimp only [kstB, envOf] at F₁ N₁ hoff hlt hS9 dc9 hdl hok9 hab9
    have hI1 : src < I := hlt (src, o2) (.head _)
    have hI2 : la < I := hlt (la, _) (.tail _ (.head _))
    have hI3 : ∀ p ∈ own, p.1 = I := fun p hp => List.mem_singleton.mp (hown p hp)
    obtain ⟨r9, hr9⟩ : ∃ r9, r9 = (optL ds ++ rest) ++ own := ⟨_, rfl⟩
    have N₂ := news_sub (l' := (src, o9) :: (la, listOf (optR ds).toArray n9) :: (F9.L + 1, oc9) :: r9) N₁ (fun p hp => by rw [hr9] at hp; simpa using hp)
    have l1a := l1.1
    have hrL : ∀ p ∈ r9, (p.1 < F9.L ∨ la < p.1) ∧ p.1 ≠ src := fun p hp => by
      rw [hr9] at hp
      rcases List.mem_append.mp hp with hp | hp
      · rcases List.mem_append.mp hp with hp | hp
        · have z := hab9 p hp
          exact ⟨.inr z, Nat.ne_of_gt (Nat.lt_trans x2 z)⟩
        · exact ⟨.inl (allLt_mem l1.2 hp), hne p hp⟩
      · rw [hI3 p hp]; exact ⟨.inr hI2, Nat.ne_of_gt hI1⟩
    have hr1 : ∀ p ∈ r9, p.1 ≠ src := fun p hp => (hrL p hp).2
    have hr2 : ∀ p ∈ r9, p.1 ≠ la := fun p hp => (hrL p hp).1.elim (fun z => Nat.ne_of_lt (Nat.lt_trans z (Nat.lt_of_succ_lt x1))) (fun z => Nat.ne_of_gt z)
    have hr3 : ∀ p ∈ r9, p.1 ≠ F9.L + 1 := fun p hp => (hrL p hp).1.elim (fun z => Nat.ne_of_lt (Nat.lt_trans z (Nat.lt_succ_self _))) (fun z => Nat.ne_of_gt (Nat.lt_trans x1 z))
    clear N₁
    try k_fold
    k_steps
    rename_i kd tkd hSa hk1 hx1 oc2 hoc2 l4 hx2 lFa lNa lz2 hx3 tk3 lFb o4 vl tvl hSb hv1 lNb hx4 tk4 t4 u4 v4 rg2 lF lN hkp2
    clear lFa lNa lFb lNb
    have hv2 := draw_len hv1
    refine comp_range (σ := Unit) (fun _ => _) (fun i ys _ => IntsAre ys ((List.range i).map fun (j : Nat) => (kd + 3 * (j : Int)) % 256)) () rfl rg2 (small_0 hv2.1 (by lia)) (rangeSize_0 hv2.1) lF lN (by rw [sizeLine_eq]; lia) (by decide) rfl rfl .nil ?cturn ?cdone
    case cturn =>
      rintro i t ys c I oI C oC D m₂ h tk E' hi hP hn hx1 F₁ N₁ off ⟨ne1, ne2, ne3⟩
      clear lF lN
      dsimp only [CBody]
      k_steps
      rename Fr _ _ _ _ => F'
      rename News _ _ _ _ => N'
      refine cend _ F' N' (fun p hp => hp) off ⟨(), rfl, ?_⟩
      have e1 : (0 : Int) + (i : Int) * 1 = (i : Int) := by lia
      rw [range_snoc, e1]
      exact ints_snoc hP
    case cdone =>
      rintro D ys c h tk hP F₁ N₁ off
      clear lF lN
      have od1 : @Ne Nat la D := off _ (.tail _ (.tail _ (.tail _ (.head _))))
      have od2 : @Ne Nat src D := off _ (.head _)
      clear off
      try k_fold
      k_steps
      · rename News _ _ _ _ => nE
        rename (_ < _ ∧ _) => zl
        exact tend ⟨o4, oc2, ds ++ [⟨_, kd, tkd, #[], _⟩], n9 + 1⟩ (by assumption) nE (opt_in hr9 (.head _) (.tail _ (.tail _ (.tail _ (.tail _ (.tail _ (.head _)))))) (.tail _ (.tail _ (.head _))) (.tail _ (.tail _ (.tail _ (.tail _ (.tail _ (.tail _ (.head _))))))) (by intro p hp; simp [hp])) (opt_own hr9 (by intro p hp; simp [hp])) (opt_hw hr9 hinI zl.2.2.2.2.2.2 hoff) (by kst_all) (by ksw_same)
          ⟨hSb, ⟨_, hoc2⟩, by rw [List.length_append, List.length_singleton, hdl], opt_ok hok9 (.inl ⟨by assumption, rfl⟩), rd_above hab9 zl.2.2.2.2.1⟩
      · rename News _ _ _ _ => nE
        rename (_ < _ ∧ _) => zl
        rename (BI _ = [_] ++ _) => hR
        exact tend ⟨o4, oc2, ds ++ [⟨_, kd, tkd, _, _⟩], n9 + 1⟩ (by assumption) nE (opt_in hr9 (.head _) (.tail _ (.tail _ (.tail _ (.tail _ (.tail _ (.tail _ (.head _))))))) (.tail _ (.tail _ (.tail _ (.head _)))) (.tail _ (.tail _ (.tail _ (.tail _ (.tail _ (.tail _ (.tail _ (.head _)))))))) (by intro p hp; simp [hp])) (opt_own hr9 (by intro p hp; simp [hp])) (opt_hw hr9 hinI zl.2.2.2.2.2.2.2 hoff) (by kst_all) (by ksw_same)
          ⟨hSb, ⟨_, hoc2⟩, by rw [List.length_append, List.length_singleton, hdl], opt_ok hok9 (.inr ⟨draw_kind hk1 (by assumption), _, hR, by show (List.map _ (List.range vl.toNat)).length ≤ 9; rw [List.length_map, List.length_range]; lia⟩), rd_above hab9 zl.2.2.2.2.2.1⟩
  case done =>
    rintro ⟨o9, oc9, ds, n9⟩ u₉ h₉ tk₉ ⟨hS9, _, hdl, hok9, hab9⟩ F₁ N₁
    clear lF3 lN3
    dsimp only [kstB, envOf] at F₁ N₁ hS9 hdl hok9 hab9
    try k_fold
    k_steps
    ((try with_reducible refine hnx _ ?_); exact hret _ _ _ _ ⟨_, la, ds, n9, rfl, rfl, hS9, by lia, hok9, hab9, fun p hp => allLt_mem x3 hp, x2⟩ (by k_asm) (by first | k_asm | exact news_subL (by assumption) (by k_extra "sub") | exact news_sub (by assumption) (by intro p hp; (try simp only [List.mem_cons, List.mem_append] at hp ⊢); grind)))
end law_options_c_
theorem law_options_c (w : World) (src : Addr) (o : Obj) (rest : Led) (ho : SrcO o) (hne : ∀ p ∈ rest, p.1 ≠ src)  : Con w (.ref 370) [.ref src] 5 ((src, o) :: rest) (fun r N => ∃ o' la ds n, r = .ref la ∧ N = (src, o') :: (la, listOf (optR ds).toArray n) :: (optL ds ++ rest) ∧ SrcO o' ∧ ds.length ≤ 3 ∧ (∀ d ∈ ds, drawOk (d.k, BI d.b)) ∧ (∀ p ∈ optL ds, la < p.1) ∧ (∀ p ∈ rest, p.1 < la) ∧ src < la) := by
  refine' BodKC.con ?ho ?hcd ?hb ?hq ?hloc ?hcl ?hnd ?hco ?hgen ?hk ?hD (fun F9 => @wit_all _ (fra0, wrl0, 0, listOf #[] 0, []) law_options_c_S (by with_unfolding_all exact law_options_c_.run) (F9, w, src, o, rest) ho hne); (case ho => k_is); (case hcd => k_is); (case hb => first | (dsimp only [List.map, List.zip, List.zipWith]; done) | (dsimp only [List.map, List.zip, List.zipWith]; exact rfl)); (case hq => first | exact fun _ _ => BindsTo.of_eq rfl | (intro s7 X7; exact binds_K X7 rfl (by k_is) rfl rfl rfl)); (case hloc => exact rfl); (case hcl => exact fun _ => rfl); (case hnd => decide +kernel); (case hco => exact rfl); (case hgen => exact rfl); (case hk => exact rfl); (case hD => decide)

theorem draw_one {q : Int × List Int} (h : drawOk q) : optOk q := by
  rcases h with h | ⟨h1, t, h2, h3⟩
  · exact .inl h
  · refine .inr ⟨?_, ?_, by rw [h2, List.length_cons]; lia⟩ <;> (simp only [List.mem_cons, List.not_mem_nil, or_false] at h1; lia)
theorem draw_oks {ds : List OD} (h : ∀ d ∈ ds, drawOk (d.k, BI d.b)) : ∀ d ∈ ds, optOk (d.k, BI d.b) := fun d hd => draw_one (h d hd)
theorem draw_len1 {q : Int × List Int} (h : drawOk q) : (optB q).length ≤ 12 := by
  unfold optB
  rcases h with ⟨h1, h2⟩ | ⟨h1, t, h2, h3⟩
  · rw [if_pos h1]; exact Nat.le_of_ble_eq_true rfl
  · split
    · exact Nat.le_of_ble_eq_true rfl
    · rw [h2]; simp only [List.length_append, List.length_cons, List.length_nil]; lia
theorem draw_raw12 : ∀ {l : List (Int × List Int)}, (∀ q ∈ l, drawOk q) → (rawO l).length ≤ 12 * l.length
  | [], _ => Nat.le_refl _
  | q :: r, h => by
    have e := draw_raw12 (l := r) fun x hx => h x (.tail _ hx)
    have e1 := draw_len1 (h q (.head _))
    have e2 : rawO (q :: r) = optB q ++ rawO r := rfl
    rw [e2, List.length_append, List.length_cons]; lia
theorem draw_opts {ds : List OD} (h : ∀ d ∈ ds, drawOk (d.k, BI d.b)) : ∀ q ∈ optsOf ds, drawOk q := fun q hq => by
  obtain ⟨d, hd, rfl⟩ := List.mem_map.mp hq
  exact h d hd
theorem draw_raw {ds : List OD} (hl : ds.length ≤ 3) (h : ∀ d ∈ ds, drawOk (d.k, BI d.b)) : (rawO (optsOf ds)).length ≤ 40 := by
  have e := draw_raw12 (draw_opts h)
  have e1 : (optsOf ds).length = ds.length := by simp [optsOf]
  lia
theorem opts_ne {ds : List OD} {src la : Addr} (h1 : src < la) (h2 : ∀ p ∈ optL ds, la < p.1) : ∀ p ∈ optL ds, p.1 ≠ src := fun p hp => Nat.ne_of_gt (Nat.lt_trans h1 (h2 p hp))
theorem law_options_c_k (w : World) (src : Addr) (o : Obj) (rest : Led) (ho : SrcO o) (hne : ∀ p ∈ rest, p.1 ≠ src)  :
   Kon w (.ref 370) [.ref src] 5 ((src, o) :: rest) (fun K9 => ∀ o' la ds n, (SrcO o') → (ds.length ≤ 3) → ((∀ d ∈ ds, drawOk (d.k, BI d.b))) → ((∀ p ∈ optL ds, la < p.1)) → ((∀ p ∈ rest, p.1 < la)) → (src < la) → K9 (.ref la) ((src, o') :: (la, listOf (optR ds).toArray n) :: (optL ds ++ rest)))  :=
  Con.kon (law_options_c w src o rest ho hne) (by
    rintro K9 g9 r9 N9 ⟨v0, v1, v2, v3, rfl, rfl, v4, v5, v6, v7, v8, v9⟩
    exact g9 v0 v1 v2 v3 v4 v5 v6 v7 v8 v9)
theorem reg_p18_1 : True := by
  k_with "call ref" => (k_here; (with_reducible show wpAny _ _ (call (Value.ref 370) _) _ _ _); k_dflt (refine' KonT.go ?_ ?_ ?_ ?_ ?_ ?_ ?_ ?_ ?_ ?_; walk_at "side 1"; (any_goals ((with_reducible show Kon _ _ _ _ _ _); exact (law_options_c_k _ _ _ _ (by assumption) (by k_all)))); walk_at "side 9"); intro _ _ _ _ _ _ _ _ hl' hok' l2' l1' ls' _; (have hk2' := draw_oks hok'); (have hr2' := draw_raw hl' hok'); (have hs2' := opts_ne ls' l2'); (try k_lt l1'); (try k_lt2 ls'))
  trivial

/-! _law_shown -/
noncomputable def padN (n : Nat) : Nat := ((4 - (n : Int) % 4) % 4).toNat
theorem padO_eq (ks : List Int) : padO ks = ks ++ List.replicate (padN ks.length) 0 := rfl
theorem padN_le {n : Nat} : padN n ≤ 3 := pad_3 n
structure ShS where
  b : Array UInt8
  t : TC
  j : Nat
noncomputable def ShInv (ks : List Int) (c : ShS) : Prop := BI c.b = ks ++ List.replicate c.j 0 ∧ c.j ≤ padN ks.length
theorem sh_next {ks : List Int} {b b' : Array UInt8} {t : TC} {j : Nat} (h : ShInv ks ⟨b, t, j⟩) (hn : ((ks ++ List.replicate j (0 : Int)).length : Int) % 4 ≠ 0) (hb : BI b' = ks ++ List.replicate j 0 ++ [0]) :
    BI b' = ks ++ List.replicate (j + 1) 0 ∧ j + 1 ≤ padN ks.length := by
  obtain ⟨h1, h2⟩ := h
  dsimp only at h1 h2
  refine ⟨by rw [hb, List.append_assoc, List.replicate_succ'], ?_⟩
  rw [List.length_append, List.length_replicate] at hn
  exact pad_next h2 hn
theorem sh_end {ks : List Int} {b : Array UInt8} {t : TC} {j : Nat} (h : ShInv ks ⟨b, t, j⟩) (hn : ((ks ++ List.replicate j (0 : Int)).length : Int) % 4 = 0) : BI b = padO ks := by
  obtain ⟨h1, h2⟩ := h
  dsimp only at h1 h2
  rw [List.length_append, List.length_replicate] at hn
  have : j = padN ks.length := pad_end h2 hn
  rw [h1, padO_eq, this]
noncomputable def law_shown_c_S (z : Fra × World × Addr × List OD × Nat × Led) : Prop :=
  (fun (F9 : Fra) (w : World) (la : Addr) (ds : List OD) (n : Nat) (news : Led) => ∀ (hla : (la, listOf (optR ds).toArray n) ∈ news), ∀ (hds : ∀ d ∈ ds, d.ent ∈ news), ∀ (hok : ∀ d ∈ ds, optOk (d.k, BI d.b)), ∀ (hlen : (rawO (optsOf ds)).length ≤ 40), BodK w 377 [.ref la] 3 news (fun r N => N = news ∧ ∃ b t, r = .bytes b t ∧ BI b = wrO (optsOf ds)) F9) (z.1) (z.2.1) (z.2.2.1) (z.2.2.2.1) (z.2.2.2.2.1) (z.2.2.2.2.2)
@[irreducible] noncomputable def law_shown_c_z : Fra × World × Addr × List OD × Nat × Led := wit (fra0, wrl0, 0, [], 0, []) law_shown_c_S
namespace law_shown_c_
@[irreducible] noncomputable def F9 : Fra := law_shown_c_z.1
@[irreducible] noncomputable def w : World := law_shown_c_z.2.1
@[irreducible] noncomputable def la : Addr := law_shown_c_z.2.2.1
@[irreducible] noncomputable def ds : List OD := law_shown_c_z.2.2.2.1
@[irreducible] noncomputable def n : Nat := law_shown_c_z.2.2.2.2.1
@[irreducible] noncomputable def news : Led := law_shown_c_z.2.2.2.2.2
theorem run : ∀ (hla : (la, listOf (optR ds).toArray n) ∈ news), ∀ (hds : ∀ d ∈ ds, d.ent ∈ news), ∀ (hok : ∀ d ∈ ds, optOk (d.k, BI d.b)), ∀ (hlen : (rawO (optsOf ds)).length ≤ 40), BodK w 377 [.ref la] 3 news (fun r N => N = news ∧ ∃ b t, r = .bytes b t ∧ BI b = wrO (optsOf ds)) F9 := by
  intro hla hds hok hlen
  have he : BI #[] = [] := rfl
  refine' BodK.enter ?ho ?hb ?_; (case ho => k_is); (case hb => first | (dsimp only [List.map, List.zip, List.zipWith]; done) | (dsimp only [List.map, List.zip, List.zipWith]; exact rfl))
  intro B' F' X' N' T' hd hu hPE hnx hret
  k_steps
  rename Fr _ _ _ _ => lF
  rename News _ _ _ _ => lN
  refine' seq_turns (σ := Array UInt8 × TC) (fun _ => news) (fun c => [(Str.ofString "found", .bytes c.1 c.2)]) [Str.ofString "kind", Str.ofString "octets"] (fun i c => BI c.1 = rawO ((optsOf ds).take i)) (_, _) rfl lF lN hla (.inl rfl) rfl ?hk ?hp ?turn ?done
  case hk => intro p hp; rw [List.mem_singleton.mp hp]; rfl
  case hp => rfl
  case turn =>
    rintro ⟨b₉, t₉⟩ i₉ v₉ u₉ h₉ tk₉ own I hv hP hoff hlt hown F₁ N₁
    clear lF lN
    dsimp only [kstB, envOf] at F₁ N₁ hP
    simp only [optR, List.getElem?_map, Option.map_eq_some_iff] at hv
    obtain ⟨⟨a₁, k₁, kt₁, b₁, bt₁⟩, hd, rfl⟩ := hv
    have hm : (⟨a₁, k₁, kt₁, b₁, bt₁⟩ : OD).ent ∈ news := hds _ (List.mem_of_getElem? hd)
    dsimp only [OD.ent] at hm
    have hok1 := hok _ (List.mem_of_getElem? hd)
    have l1 := rawO_take_len (optsOf ds) i₉
    have l2 := optB_len hok1
    have hB₁ : BI b₁ = BI b₁ := rfl
    have hk1 : 1 ≤ k₁ ∧ k₁ ≤ 255 ∧ (BI b₁).length + 2 ≤ 40 := by
      rcases hok1 with ⟨h1, h2⟩ | ⟨h1, h2, h3⟩
      · dsimp only at h1 h2; rw [h2]; simp; lia
      · exact ⟨by dsimp only at h1; lia, h2, h3⟩
    obtain ⟨k1a, k1b, k1c⟩ := hk1
    have hg : (optsOf ds)[i₉]? = some (k₁, BI b₁) := by simp only [optsOf, List.getElem?_map, hd]; rfl
    try k_fold
    k_steps
    · rename (BI _ = rawO _ ++ _) => hR
      have e1 : k₁ = 1 := by assumption
      have hR2 := hR.trans (show _ = rawO ((optsOf ds).take (i₉ + 1)) by rw [rawO_take _ _ _ hg]; unfold optB; rw [if_pos e1, e1])
      exact tend ((_, _)) (by assumption) (by assumption) (by intro p hp; first | exact List.mem_append_left _ hp | (simp only [List.mem_append, List.mem_cons] at hp ⊢; grind)) (by intro p hp; first | exact List.mem_append_right _ hp | (simp only [List.mem_append, List.mem_cons] at hp ⊢; grind)) (hoff) (by first | kst_all | exact (fun _ hp => nomatch hp)) (by ksw_same) (hR2)
    · rename (BI _ = rawO _ ++ _) => hR
      have e1 : ¬ k₁ = 1 := by assumption
      have hR2 := hR.trans (show _ = rawO ((optsOf ds).take (i₉ + 1)) by rw [rawO_take _ _ _ hg]; unfold optB; rw [if_neg e1])
      exact tend ((_, _)) (by assumption) (by assumption) (by intro p hp; first | exact List.mem_append_left _ hp | (simp only [List.mem_append, List.mem_cons] at hp ⊢; grind)) (by intro p hp; first | exact List.mem_append_right _ hp | (simp only [List.mem_append, List.mem_cons] at hp ⊢; grind)) (hoff) (by first | kst_all | exact (fun _ hp => nomatch hp)) (by ksw_same) (hR2)
  case done =>
    rintro ⟨b₉, t₉⟩ u₉ h₉ tk₉ hP F₁ N₁
    clear lF lN
    dsimp only [kstB, envOf] at F₁ N₁ hP
    rw [optR_length, show ds.length = (optsOf ds).length from by simp [optsOf], List.take_length] at hP
    try k_fold
    k_with "exec While Compare cons nil" => (k_here; (rename Fr _ _ _ _ => lF'); (rename News _ _ _ _ => lN'); (with_unfolding_all refine' ksw_while (σ := ShS) (fun _ => news) (fun c => [(Str.ofString "found", .bytes c.b c.t)]) (fun _ => True) [] (ShInv (rawO (optsOf ds))) (fun c => 4 - c.j) ⟨b₉, t₉, 0⟩ lF' ?kn ?kf ?kk ?kp ?_); (case kn => exact lN'); (case kf => trivial); (case kk => kst_all); (case kp => exact ⟨by simpa using hP, Nat.zero_le _⟩); (all_goals (try clear lF' lN')); (rintro ⟨b8, t8, j8⟩ u₉ h₉ tk₉ hf8 hi9 F₁ N₁); (have hi8 := hi9; obtain ⟨hi0, hi1⟩ := hi8); (dsimp only [kstB, envOf] at F₁ N₁ hi0 hi1); (have hj8 : j8 ≤ 3 := Nat.le_trans hi1 padN_le); try k_fold)
    k_steps
    · rename News _ _ _ _ => nE
      rename (BI _ = _ ++ [0]) => hR
      have hj9 := sh_next hi9 (by assumption) hR
      refine ksw_end ⟨_, _, j8 + 1⟩ (by assumption) nE (fun _ h => .tail _ h) trivial (by kst_all) (by ksw_same) ⟨hj9.1, hj9.2⟩ (dec4 hj8)
    · ((try with_reducible refine hnx _ ?_); exact hret _ _ _ _ ⟨rfl, _, _, rfl, sh_end hi9 (by lia)⟩ (by k_asm) (by first | k_asm | exact news_subL (by assumption) (by k_extra "sub") | exact news_sub (by assumption) (by intro p hp; (try simp only [List.mem_cons, List.mem_append] at hp ⊢); grind)))
end law_shown_c_
theorem law_shown_c (w : World) (la : Addr) (ds : List OD) (n : Nat) (news : Led) (hla : (la, listOf (optR ds).toArray n) ∈ news) (hds : ∀ d ∈ ds, d.ent ∈ news) (hok : ∀ d ∈ ds, optOk (d.k, BI d.b)) (hlen : (rawO (optsOf ds)).length ≤ 40)  : Con w (.ref 377) [.ref la] 3 news (fun r N => N = news ∧ ∃ b t, r = .bytes b t ∧ BI b = wrO (optsOf ds)) := by
  refine' BodK.con ?ho ?hcd ?hb ?hq ?hloc ?hco ?hgen ?hk ?hcell ?hD (fun F9 => @wit_all _ (fra0, wrl0, 0, [], 0, []) law_shown_c_S (by with_unfolding_all exact law_shown_c_.run) (F9, w, la, ds, n, news) hla hds hok hlen); (case ho => k_is); (case hcd => k_is); (case hb => first | (dsimp only [List.map, List.zip, List.zipWith]; done) | (dsimp only [List.map, List.zip, List.zipWith]; exact rfl)); (case hq => first | exact fun _ _ => BindsTo.of_eq rfl | (intro s7 X7; exact binds_K X7 rfl (by k_is) rfl rfl rfl)); (case hloc => exact locs rfl); (case hco => exact rfl); (case hgen => exact rfl); (case hk => exact rfl); (case hcell => decide); (case hD => decide)

theorem law_shown_c_k (w : World) (la : Addr) (ds : List OD) (n : Nat) (news : Led) (hla : (la, listOf (optR ds).toArray n) ∈ news) (hds : ∀ d ∈ ds, d.ent ∈ news) (hok : ∀ d ∈ ds, optOk (d.k, BI d.b)) (hlen : (rawO (optsOf ds)).length ≤ 40)  :
   Kon w (.ref 377) [.ref la] 3 news (fun K9 => ∀ b t, (BI b = wrO (optsOf ds)) → K9 (.bytes b t) (news))  :=
  Con.kon (law_shown_c w la ds n news hla hds hok hlen) (by
    rintro K9 g9 r9 N9 ⟨rfl, v0, v1, rfl, v2⟩
    exact g9 v0 v1 v2)
theorem reg_p18a_0 : True := by
  k_with "call ref" => (k_here; (with_reducible show wpAny _ _ (call (Value.ref 377) _) _ _ _); k_dflt (refine' Kon.go ?_ ?_ ?_ ?_ ?_ ?_ ?_ ?_ ?_ ?_; walk_at "side 0"; (any_goals ((with_reducible show Kon _ _ _ _ _ _); exact (law_shown_c_k _ _ _ _ _ (by k_mem) (by first | assumption | (intro _ hd; repeat (first | exact List.mem_append_left _ (mem_optL hd) | refine List.mem_cons_of_mem _ ?_ | refine List.mem_append_right _ ?_))) (by assumption) (by assumption)))); walk_at "side 9"); intro _ _ _ _ _ _ _)
  trivial

/-! _law_header -/
theorem padO_len4 (ks : List Int) : (padO ks).length % 4 = 0 := by rw [padO_len]; exact pad_4 _
theorem padO_len40 {ks : List Int} (h : ks.length ≤ 40) : (padO ks).length ≤ 40 := by rw [padO_len]; exact pad_40 h
theorem wr_ok {l : List (Int × List Int)} (h : (rawO l).length ≤ 40) : (wrO l).length % 4 = 0 ∧ (wrO l).length ≤ 40 := ⟨padO_len4 _, padO_len40 h⟩
theorem hdr_end {w : World} {g hp : Heap} {L src x dx : Addr} {o' : Obj} {c : Nat → TC} {a0 a1 a2 a3 a4 a5 a6 : Int} {t0 t1 t2 t3 t4 t5 t6 t7 : TC} {d0 d1 : Bool} {b : Array UInt8} {ks : List Int} {rest X : Led} {P : Prop}
    (nE : News g L hp ((x, instObj 183 dx) :: (dx, dictOf (hdrEs w c (.int a0 t0) (.int a1 t1) (.int a2 t2) (.int a3 t3) (.int a4 t4) (.int a5 t5) (.bool d0) (.bool d1) (.int a6 t6) (.bytes b t7)) 10) :: (src, o') :: X))
    (hB : BI b = ks) (hS : SrcO o') (l2 : dx < x) (hsub : ∀ p ∈ rest, p ∈ X) (l1 : ∀ p ∈ rest, p.1 < dx) (ls : src < dx) (ok : (⟨a0, a1, a2, a3, a4, a5, d0, d1, a6, ks⟩ : Hdr).Ok)
    (k : ∀ N₁, (∃ o' x' dx c u b h, Value.ref x = .ref x' ∧ N₁ = (src, o') :: (x', instObj 183 dx) :: (dx, dictOf (hdrV w c u b h) 10) :: rest ∧ SrcO o' ∧ h.Ok ∧ BI b = h.options ∧ dx < x' ∧ (∀ p ∈ rest, p.1 < dx) ∧ src < dx) → News g L hp N₁ → P) : P :=
  k _ ⟨o', x, dx, c, tks [t0, t1, t2, t3, t4, t5, t6, t7], b, ⟨a0, a1, a2, a3, a4, a5, d0, d1, a6, ks⟩, rfl, rfl, hS, ok, hB, l2, l1, ls⟩ (news_sub nE fun p hp => by
    rcases List.mem_cons.mp hp with rfl | hp
    · exact .tail _ (.tail _ (.head _))
    rcases List.mem_cons.mp hp with rfl | hp
    · exact .head _
    rcases List.mem_cons.mp hp with rfl | hp
    · exact .tail _ (.head _)
    exact .tail _ (.tail _ (.tail _ (hsub p hp))))
theorem allLt_app {D : Addr} {a b : Led} (h : AllLt D (a ++ b)) : AllLt D b := by
  induction a with
  | nil => exact h
  | cons p r ih => exact ih h.2
noncomputable def law_header_c_S (z : Fra × World × Addr × Obj × Led) : Prop :=
  (fun (F9 : Fra) (w : World) (src : Addr) (o : Obj) (rest : Led) => ∀ (ho : SrcO o), ∀ (hne : ∀ p ∈ rest, p.1 ≠ src), BodK w 391 [.ref src] 7 ((src, o) :: rest) (fun r N => ∃ o' x dx c u b h, r = .ref x ∧ N = (src, o') :: (x, instObj 183 dx) :: (dx, dictOf (hdrV w c u b h) 10) :: rest ∧ SrcO o' ∧ h.Ok ∧ BI b = h.options ∧ dx < x ∧ (∀ p ∈ rest, p.1 < dx) ∧ src < dx) F9) (z.1) (z.2.1) (z.2.2.1) (z.2.2.2.1) (z.2.2.2.2)
@[irreducible] noncomputable def law_header_c_z : Fra × World × Addr × Obj × Led := wit (fra0, wrl0, 0, listOf #[] 0, []) law_header_c_S
namespace law_header_c_
@[irreducible] noncomputable def F9 : Fra := law_header_c_z.1
@[irreducible] noncomputable def w : World := law_header_c_z.2.1
@[irreducible] noncomputable def src : Addr := law_header_c_z.2.2.1
@[irreducible] noncomputable def o : Obj := law_header_c_z.2.2.2.1
@[irreducible] noncomputable def rest : Led := law_header_c_z.2.2.2.2
theorem run : ∀ (ho : SrcO o), ∀ (hne : ∀ p ∈ rest, p.1 ≠ src), BodK w 391 [.ref src] 7 ((src, o) :: rest) (fun r N => ∃ o' x dx c u b h, r = .ref x ∧ N = (src, o') :: (x, instObj 183 dx) :: (dx, dictOf (hdrV w c u b h) 10) :: rest ∧ SrcO o' ∧ h.Ok ∧ BI b = h.options ∧ dx < x ∧ (∀ p ∈ rest, p.1 < dx) ∧ src < dx) F9 := by
  intro ho hne
  refine' BodK.enter ?ho ?hb ?_; (case ho => k_is); (case hb => first | (dsimp only [List.map, List.zip, List.zipWith]; done) | (dsimp only [List.map, List.zip, List.zipWith]; exact rfl))
  intro B' F' X' N' T' hd hu hPE hnx hret
  k_steps
  rename ((rawO _).length ≤ 40) => hr
  rename (_ < _ ∧ _ < _ ∧ AllLt _ _) => lz
  obtain ⟨l4, l5⟩ := wr_ok hr
  refine hdr_end (rest := rest) (by assumption) (by assumption) (by assumption) (by assumption) ?sub (fun p hp => allLt_mem lz.2.2 ?in_) lz.1 ?ok fun N₁ hp hN => hret _ _ _ _ hp (by k_asm) hN
  case in_ => simp [hp]
  case sub => intro p hp; simp [hp]
  case ok =>
    clear hne hret
    simp only [List.mem_cons, List.not_mem_nil, or_false] at *
    constructor
    all_goals (dsimp only; first | lia | exact l4 | exact l5)
end law_header_c_
theorem law_header_c (w : World) (src : Addr) (o : Obj) (rest : Led) (ho : SrcO o) (hne : ∀ p ∈ rest, p.1 ≠ src)  : Con w (.ref 391) [.ref src] 7 ((src, o) :: rest) (fun r N => ∃ o' x dx c u b h, r = .ref x ∧ N = (src, o') :: (x, instObj 183 dx) :: (dx, dictOf (hdrV w c u b h) 10) :: rest ∧ SrcO o' ∧ h.Ok ∧ BI b = h.options ∧ dx < x ∧ (∀ p ∈ rest, p.1 < dx) ∧ src < dx) := by
  refine' BodK.con ?ho ?hcd ?hb ?hq ?hloc ?hco ?hgen ?hk ?hcell ?hD (fun F9 => @wit_all _ (fra0, wrl0, 0, listOf #[] 0, []) law_header_c_S (by with_unfolding_all exact law_header_c_.run) (F9, w, src, o, rest) ho hne); (case ho => k_is); (case hcd => k_is); (case hb => first | (dsimp only [List.map, List.zip, List.zipWith]; done) | (dsimp only [List.map, List.zip, List.zipWith]; exact rfl)); (case hq => first | exact fun _ _ => BindsTo.of_eq rfl | (intro s7 X7; exact binds_K X7 rfl (by k_is) rfl rfl rfl)); (case hloc => exact locs rfl); (case hco => exact rfl); (case hgen => exact rfl); (case hk => exact rfl); (case hcell => decide); (case hD => decide)

theorem law_header_c_k (w : World) (src : Addr) (o : Obj) (rest : Led) (ho : SrcO o) (hne : ∀ p ∈ rest, p.1 ≠ src)  :
   Kon w (.ref 391) [.ref src] 7 ((src, o) :: rest) (fun K9 => ∀ o' x dx c u b h, (SrcO o') → (h.Ok) → (BI b = h.options) → (dx < x) → ((∀ p ∈ rest, p.1 < dx)) → (src < dx) → K9 (.ref x) ((src, o') :: (x, instObj 183 dx) :: (dx, dictOf (hdrV w c u b h) 10) :: rest))  :=
  Con.kon (law_header_c w src o rest ho hne) (by
    rintro K9 g9 r9 N9 ⟨v0, v1, v2, v3, v4, v5, v6, rfl, rfl, v7, v8, v9, v10, v11, v12⟩
    exact g9 v0 v1 v2 v3 v4 v5 v6 v7 v8 v9 v10 v11 v12)
theorem reg_p18b_0 : True := by
  k_with "call ref" => (k_here; (with_reducible show wpAny _ _ (call (Value.ref 391) _) _ _ _); k_dflt (refine' KonT.go ?_ ?_ ?_ ?_ ?_ ?_ ?_ ?_ ?_ ?_; walk_at "side 1"; (any_goals ((with_reducible show Kon _ _ _ _ _ _); exact (law_header_c_k _ _ _ _ (by assumption) (by k_all)))); walk_at "side 9"); intro _ _ _ _ _ _ _ _ _ _ _ _ _ l2' l1' ls' _; (try k_lt l1'); (try k_lt2 l2'); (try k_lt2 ls'))
  trivial

/-! _law_fields_right -/
noncomputable def law_fields_c_S (z : Fra × World × Addr × Addr × (Nat → TC) × (Nat → TC) × Array UInt8 × Hdr × Array UInt8 × TC × List Int × Array UInt8 × TC × Led) : Prop :=
  (fun (F9 : Fra) (w : World) (x : Addr) (dx : Addr) (c : Nat → TC) (u : Nat → TC) (b : Array UInt8) (h : Hdr) (p : Array UInt8) (tp : TC) (ps : List Int) (oc : Array UInt8) (to : TC) (news : Led) => ∀ (hx : (x, instObj 183 dx) ∈ news), ∀ (hd : (dx, dictOf (hdrV w c u b h) 10) ∈ news), ∀ (hb : BI b = h.options), ∀ (hp : BI p = ps), ∀ (ho : BI oc = pk h ps), ∀ (H : h.Ok), ∀ (hl : ps.length ≤ 60000), BodK w 412 [.ref x, .bytes p tp, .bytes oc to] 4 news (fun r N => N = news ∧ r = .bool true) F9) (z.1) (z.2.1) (z.2.2.1) (z.2.2.2.1) (z.2.2.2.2.1) (z.2.2.2.2.2.1) (z.2.2.2.2.2.2.1) (z.2.2.2.2.2.2.2.1) (z.2.2.2.2.2.2.2.2.1) (z.2.2.2.2.2.2.2.2.2.1) (z.2.2.2.2.2.2.2.2.2.2.1) (z.2.2.2.2.2.2.2.2.2.2.2.1) (z.2.2.2.2.2.2.2.2.2.2.2.2.1) (z.2.2.2.2.2.2.2.2.2.2.2.2.2)
@[irreducible] noncomputable def law_fields_c_z : Fra × World × Addr × Addr × (Nat → TC) × (Nat → TC) × Array UInt8 × Hdr × Array UInt8 × TC × List Int × Array UInt8 × TC × Led := wit (fra0, wrl0, 0, 0, fun _ => 0, fun _ => 0, #[], ⟨0, 0, 0, 0, 0, 0, false, false, 0, []⟩, #[], 0, [], #[], 0, []) law_fields_c_S
namespace law_fields_c_
@[irreducible] noncomputable def F9 : Fra := law_fields_c_z.1
@[irreducible] noncomputable def w : World := law_fields_c_z.2.1
@[irreducible] noncomputable def x : Addr := law_fields_c_z.2.2.1
@[irreducible] noncomputable def dx : Addr := law_fields_c_z.2.2.2.1
@[irreducible] noncomputable def c : Nat → TC := law_fields_c_z.2.2.2.2.1
@[irreducible] noncomputable def u : Nat → TC := law_fields_c_z.2.2.2.2.2.1
@[irreducible] noncomputable def b : Array UInt8 := law_fields_c_z.2.2.2.2.2.2.1
@[irreducible] noncomputable def h : Hdr := law_fields_c_z.2.2.2.2.2.2.2.1
@[irreducible] noncomputable def p : Array UInt8 := law_fields_c_z.2.2.2.2.2.2.2.2.1
@[irreducible] noncomputable def tp : TC := law_fields_c_z.2.2.2.2.2.2.2.2.2.1
@[irreducible] noncomputable def ps : List Int := law_fields_c_z.2.2.2.2.2.2.2.2.2.2.1
@[irreducible] noncomputable def oc : Array UInt8 := law_fields_c_z.2.2.2.2.2.2.2.2.2.2.2.1
@[irreducible] noncomputable def to : TC := law_fields_c_z.2.2.2.2.2.2.2.2.2.2.2.2.1
@[irreducible] noncomputable def news : Led := law_fields_c_z.2.2.2.2.2.2.2.2.2.2.2.2.2
theorem run : ∀ (hx : (x, instObj 183 dx) ∈ news), ∀ (hd : (dx, dictOf (hdrV w c u b h) 10) ∈ news), ∀ (hb : BI b = h.options), ∀ (hp : BI p = ps), ∀ (ho : BI oc = pk h ps), ∀ (H : h.Ok), ∀ (hl : ps.length ≤ 60000), BodK w 412 [.ref x, .bytes p tp, .bytes oc to] 4 news (fun r N => N = news ∧ r = .bool true) F9 := by
  intro hx hd hb hp ho H hl
  have hO := inB_of hb
  have hpl := pk_len h ps
  have hB := inB_of ho
  have hfl := flags_in H
  obtain ⟨f0, f1, f2, f3, f4, f5, f6, f7, f8⟩ := fields_pk H ps hl
  have H' := H
  obtain ⟨s0, s1, t0, t1, p0, p1, i0, i1, l0, l1, c0, c1, o0, o1, o8, n0, n1⟩ := H
  have f4' : numv (pk h ps) 6 2 = (h.offset / 8 + 16384 * if h.dont = true then 1 else 0) + 8192 * if h.more = true then 1 else 0 := f4.trans (by unfold Hdr.flags; (repeat' split) <;> lia)
  have e1 : (((pk h ps).drop 20).take ((20 + (h.options.length : Int)).toNat - 20)) = h.options := pk_opts h ps (Nat.add_sub_cancel_left ..)
  have e2 : (pk h ps).take (20 + (h.options.length : Int)).toNat = hH h ps.length := pk_take h ps rfl
  have e3 : (pk h ps).drop (20 + (h.options.length : Int)).toNat = ps := pk_drop h ps rfl
  have e4 := head_fold H' hO ps.length
  have e5 : ((pk h ps).take (20 + (h.options.length : Int)).toNat).length % 2 = 0 := by rw [e2, hH_len]; lia
  have e6 : (pk h ps).length ≤ 60060 := by lia
  have e7 : 20 ≤ ((pk h ps).length : Int) := by lia
  clear hpl
  refine' BodK.enter ?ho ?hb ?_; (case ho => k_is); (case hb => first | (dsimp only [List.map, List.zip, List.zipWith]; done) | (dsimp only [List.map, List.zip, List.zipWith]; exact rfl))
  intro B' F' X' N' T' hd hu hPE hnx hret
  k_steps
  · ((try with_reducible refine hnx _ ?_); exact hret _ _ _ _ ⟨rfl, by rw [decide_eq_true e3]⟩ (by k_asm) (by first | k_asm | exact news_subL (by assumption) (by k_extra "sub") | exact news_sub (by assumption) (by intro p hp; (try simp only [List.mem_cons, List.mem_append] at hp ⊢); grind)))
  · exact absurd (show foldv (psum (List.take (20 + (h.options.length : Int)).toNat (pk h ps))) = 65535 by rw [e2]; exact e4) (by assumption)
end law_fields_c_
theorem law_fields_c (w : World) (x dx : Addr) (c u : Nat → TC) (b : Array UInt8) (h : Hdr) (p : Array UInt8) (tp : TC) (ps : List Int) (oc : Array UInt8) (to : TC) (news : Led) (hx : (x, instObj 183 dx) ∈ news) (hd : (dx, dictOf (hdrV w c u b h) 10) ∈ news)
   (hb : BI b = h.options) (hp : BI p = ps) (ho : BI oc = pk h ps) (H : h.Ok) (hl : ps.length ≤ 60000)  : Con w (.ref 412) [.ref x, .bytes p tp, .bytes oc to] 4 news (fun r N => N = news ∧ r = .bool true) := by
  refine' BodK.con ?ho ?hcd ?hb ?hq ?hloc ?hco ?hgen ?hk ?hcell ?hD (fun F9 => @wit_all _ (fra0, wrl0, 0, 0, fun _ => 0, fun _ => 0, #[], ⟨0, 0, 0, 0, 0, 0, false, false, 0, []⟩, #[], 0, [], #[], 0, []) law_fields_c_S (by with_unfolding_all exact law_fields_c_.run) (F9, w, x, dx, c, u, b, h, p, tp, ps, oc, to, news) hx hd hb hp ho H hl); (case ho => k_is); (case hcd => k_is); (case hb => first | (dsimp only [List.map, List.zip, List.zipWith]; done) | (dsimp only [List.map, List.zip, List.zipWith]; exact rfl)); (case hq => first | exact fun _ _ => BindsTo.of_eq rfl | (intro s7 X7; exact binds_K X7 rfl (by k_is) rfl rfl rfl)); (case hloc => exact locs rfl); (case hco => exact rfl); (case hgen => exact rfl); (case hk => exact rfl); (case hcell => decide); (case hD => decide)

theorem law_fields_c_k (w : World) (x dx : Addr) (c u : Nat → TC) (b : Array UInt8) (h : Hdr) (p : Array UInt8) (tp : TC) (ps : List Int) (oc : Array UInt8) (to : TC) (news : Led) (hx : (x, instObj 183 dx) ∈ news) (hd : (dx, dictOf (hdrV w c u b h) 10) ∈ news)
   (hb : BI b = h.options) (hp : BI p = ps) (ho : BI oc = pk h ps) (H : h.Ok) (hl : ps.length ≤ 60000)  :
   Kon w (.ref 412) [.ref x, .bytes p tp, .bytes oc to] 4 news (fun K9 =>  K9 (.bool true) (news))  :=
  Con.kon (law_fields_c w x dx c u b h p tp ps oc to news hx hd hb hp ho H hl) (by
    rintro K9 g9 r9 N9 ⟨rfl, rfl⟩
    exact g9)
theorem reg_p18c_0 : True := by
  k_with "call ref" => (k_here; (with_reducible show wpAny _ _ (call (Value.ref 412) _) _ _ _); k_dflt (refine' Kon.go ?_ ?_ ?_ ?_ ?_ ?_ ?_ ?_ ?_ ?_; walk_at "side 0"; (any_goals ((with_reducible show Kon _ _ _ _ _ _); exact (law_fields_c_k _ _ _ _ _ _ _ _ _ _ _ _ _ (by k_mem) (by k_mem) (by assumption) (by assumption) (by assumption) (by assumption) (by lia)))); walk_at "side 9"); intro _ _ _ _)
  trivial

/-! _law_hop_right -/
theorem Con.mono {w : World} {f : Value} {args : List Value} {D : Nat} {N₀ : Led} {P P' : Value → Led → Prop} (C : Con w f args D N₀ P) (h : ∀ r N, P r N → P' r N) : Con w f args D N₀ P' := by
  intro dp un gd cn cs a ccd cl outer A₀ base h₀ L m s Q E p loose mean mg mb B F X N T hk hd hu ret
  exact C dp un gd cn cs a ccd cl outer A₀ base h₀ L m s Q E p loose mean mg mb B F X N T hk hd hu fun r N₁ h' tk' hp => ret r N₁ h' tk' (h _ _ hp)
theorem lessened_lo (w : World) (x dx : Addr) (c u : Nat → TC) (b : Array UInt8) (h : Hdr) (news : Led) (hx : (x, instObj 183 dx) ∈ news) (hd : (dx, dictOf (hdrV w c u b h) 10) ∈ news) (hb : BI b = h.options) (ht : h.ttl ≤ 1) :
   Con w (.ref 243) [.ref x] 6 news (fun r N => N = news ∧ r = .none) :=
  (lessened_c w x dx c u b h news hx hd hb).mono fun r N hp => by
    rcases hp with ⟨_, h1, h2⟩ | ⟨h1, _⟩
    · exact ⟨h2, h1⟩
    · lia
theorem lessened_hi (w : World) (x dx : Addr) (c u : Nat → TC) (b : Array UInt8) (h : Hdr) (news : Led) (hx : (x, instObj 183 dx) ∈ news) (hd : (dx, dictOf (hdrV w c u b h) 10) ∈ news) (hb : BI b = h.options) (ht : 1 < h.ttl) :
   Con w (.ref 243) [.ref x] 6 news (fun r N => ∃ x dx c u, r = .ref x ∧ N = (x, instObj 183 dx) :: (dx, dictOf (hdrV w c u b { h with ttl := h.ttl - 1 }) 10) :: news ∧ dx < x ∧ ∀ p ∈ news, p.1 < dx) :=
  (lessened_c w x dx c u b h news hx hd hb).mono fun r N hp => by
    rcases hp with ⟨h1, _⟩ | ⟨_, h1⟩
    · lia
    · exact h1
theorem lesoct_lo (w : World) (b : Array UInt8) (tb : TC) (ks : List Int) (news : Led) (hb : BI b = ks) (hl : ks.length ≤ 100000) (hg : headGood ks) (ht : ks.getD 8 0 ≤ 1) :
   Con w (.ref 250) [.bytes b tb] 8 news (fun r N => N = news ∧ r = .none) :=
  (lessened_octets_c w b tb ks news hb hl hg).mono fun r N hp => by
    rcases hp with ⟨h0, ⟨_, h1⟩ | ⟨h1, _⟩⟩
    · exact ⟨h0, h1⟩
    · lia
theorem lesoct_hi (w : World) (b : Array UInt8) (tb : TC) (ks : List Int) (news : Led) (hb : BI b = ks) (hl : ks.length ≤ 100000) (hg : headGood ks) (ht : 1 < ks.getD 8 0) :
   Con w (.ref 250) [.bytes b tb] 8 news (fun r N => N = news ∧ ∃ b t, r = .bytes b t ∧ BI b = hopOct ks) :=
  (lessened_octets_c w b tb ks news hb hl hg).mono fun r N hp => by
    rcases hp with ⟨h0, ⟨h1, _⟩ | ⟨_, h1⟩⟩
    · lia
    · exact ⟨h0, h1⟩
theorem lessened_lo_k (w : World) (x dx : Addr) (c u : Nat → TC) (b : Array UInt8) (h : Hdr) (news : Led) (hx : (x, instObj 183 dx) ∈ news) (hd : (dx, dictOf (hdrV w c u b h) 10) ∈ news) (hb : BI b = h.options) (ht : h.ttl ≤ 1)  :
   Kon w (.ref 243) [.ref x] 6 news (fun K9 =>  K9 (.none) (news))  :=
  Con.kon (lessened_lo w x dx c u b h news hx hd hb ht) (by
    rintro K9 g9 r9 N9 ⟨rfl, rfl⟩
    exact g9)
theorem lessened_hi_k (w : World) (x dx : Addr) (c u : Nat → TC) (b : Array UInt8) (h : Hdr) (news : Led) (hx : (x, instObj 183 dx) ∈ news) (hd : (dx, dictOf (hdrV w c u b h) 10) ∈ news) (hb : BI b = h.options) (ht : 1 < h.ttl)  :
   Kon w (.ref 243) [.ref x] 6 news (fun K9 => ∀ x dx c u, (dx < x) → (∀ p ∈ news, p.1 < dx) → K9 (.ref x) ((x, instObj 183 dx) :: (dx, dictOf (hdrV w c u b { h with ttl := h.ttl - 1 }) 10) :: news))  :=
  Con.kon (lessened_hi w x dx c u b h news hx hd hb ht) (by
    rintro K9 g9 r9 N9 ⟨v0, v1, v2, v3, rfl, rfl, v4, v5⟩
    exact g9 v0 v1 v2 v3 v4 v5)
theorem lesoct_lo_k (w : World) (b : Array UInt8) (tb : TC) (ks : List Int) (news : Led) (hb : BI b = ks) (hl : ks.length ≤ 100000) (hg : headGood ks) (ht : ks.getD 8 0 ≤ 1)  :
   Kon w (.ref 250) [.bytes b tb] 8 news (fun K9 =>  K9 (.none) (news))  :=
  Con.kon (lesoct_lo w b tb ks news hb hl hg ht) (by
    rintro K9 g9 r9 N9 ⟨rfl, rfl⟩
    exact g9)
theorem lesoct_hi_k (w : World) (b : Array UInt8) (tb : TC) (ks : List Int) (news : Led) (hb : BI b = ks) (hl : ks.length ≤ 100000) (hg : headGood ks) (ht : 1 < ks.getD 8 0)  :
   Kon w (.ref 250) [.bytes b tb] 8 news (fun K9 => ∀ b t, (BI b = hopOct ks) → K9 (.bytes b t) (news))  :=
  Con.kon (lesoct_hi w b tb ks news hb hl hg ht) (by
    rintro K9 g9 r9 N9 ⟨rfl, v0, v1, rfl, v2⟩
    exact g9 v0 v1 v2)
theorem reg_p18d_0 : True := by
  k_with "call ref" => (k_here; (with_reducible show wpAny _ _ (call (Value.ref 243) _) _ _ _); k_dflt (refine' Kon.go ?_ ?_ ?_ ?_ ?_ ?_ ?_ ?_ ?_ ?_; walk_at "side 0"; (any_goals ((with_reducible show Kon _ _ _ _ _ _); exact (lessened_lo_k _ _ _ _ _ _ _ _ (by k_mem) (by k_mem) (by assumption) (by lia)))); walk_at "side 9"); intro _ _ _ _)
  k_with "call ref" => (k_here; (with_reducible show wpAny _ _ (call (Value.ref 243) _) _ _ _); k_dflt (refine' Kon.go ?_ ?_ ?_ ?_ ?_ ?_ ?_ ?_ ?_ ?_; walk_at "side 0"; (any_goals ((with_reducible show Kon _ _ _ _ _ _); exact (lessened_hi_k _ _ _ _ _ _ _ _ (by k_mem) (by k_mem) (by assumption) (by lia)))); walk_at "side 9"); intro _ _ _ _ _ _ _ l2' l1' _; (try k_lt l1'); (try k_lt2 l2'))
  k_with "call ref" => (k_here; (with_reducible show wpAny _ _ (call (Value.ref 250) _) _ _ _); k_dflt (refine' Kon.go ?_ ?_ ?_ ?_ ?_ ?_ ?_ ?_ ?_ ?_; walk_at "side 0"; (any_goals ((with_reducible show Kon _ _ _ _ _ _); exact (lesoct_lo_k _ _ _ _ _ (by assumption) (by kba_size) (by assumption) (by lia)))); walk_at "side 9"); intro _ _ _ _)
  k_with "call ref" => (k_here; (with_reducible show wpAny _ _ (call (Value.ref 250) _) _ _ _); k_dflt (refine' Kon.go ?_ ?_ ?_ ?_ ?_ ?_ ?_ ?_ ?_ ?_; walk_at "side 0"; (any_goals ((with_reducible show Kon _ _ _ _ _ _); exact (lesoct_hi_k _ _ _ _ _ (by assumption) (by kba_size) (by assumption) (by lia)))); walk_at "side 9"); intro _ _ _ _ _ _ _)
  trivial
noncomputable def law_hop_lo_S (z : Fra × World × Addr × Addr × (Nat → TC) × (Nat → TC) × Array UInt8 × Hdr × Array UInt8 × TC × List Int × Array UInt8 × TC × Led) : Prop :=
  (fun (F9 : Fra) (w : World) (x : Addr) (dx : Addr) (c : Nat → TC) (u : Nat → TC) (b : Array UInt8) (h : Hdr) (p : Array UInt8) (tp : TC) (ps : List Int) (oc : Array UInt8) (to : TC) (news : Led) => ∀ (hx : (x, instObj 183 dx) ∈ news), ∀ (hd : (dx, dictOf (hdrV w c u b h) 10) ∈ news), ∀ (hb : BI b = h.options), ∀ (hp : BI p = ps), ∀ (ho : BI oc = pk h ps), ∀ (H : h.Ok), ∀ (hl : ps.length ≤ 60000), ∀ (hT : h.ttl ≤ 1), BodK w 433 [.ref x, .bytes p tp, .bytes oc to] 9 news (fun r N => N = news ∧ r = .bool true) F9) (z.1) (z.2.1) (z.2.2.1) (z.2.2.2.1) (z.2.2.2.2.1) (z.2.2.2.2.2.1) (z.2.2.2.2.2.2.1) (z.2.2.2.2.2.2.2.1) (z.2.2.2.2.2.2.2.2.1) (z.2.2.2.2.2.2.2.2.2.1) (z.2.2.2.2.2.2.2.2.2.2.1) (z.2.2.2.2.2.2.2.2.2.2.2.1) (z.2.2.2.2.2.2.2.2.2.2.2.2.1) (z.2.2.2.2.2.2.2.2.2.2.2.2.2)
@[irreducible] noncomputable def law_hop_lo_z : Fra × World × Addr × Addr × (Nat → TC) × (Nat → TC) × Array UInt8 × Hdr × Array UInt8 × TC × List Int × Array UInt8 × TC × Led := wit (fra0, wrl0, 0, 0, fun _ => 0, fun _ => 0, #[], ⟨0, 0, 0, 0, 0, 0, false, false, 0, []⟩, #[], 0, [], #[], 0, []) law_hop_lo_S
namespace law_hop_lo_
@[irreducible] noncomputable def F9 : Fra := law_hop_lo_z.1
@[irreducible] noncomputable def w : World := law_hop_lo_z.2.1
@[irreducible] noncomputable def x : Addr := law_hop_lo_z.2.2.1
@[irreducible] noncomputable def dx : Addr := law_hop_lo_z.2.2.2.1
@[irreducible] noncomputable def c : Nat → TC := law_hop_lo_z.2.2.2.2.1
@[irreducible] noncomputable def u : Nat → TC := law_hop_lo_z.2.2.2.2.2.1
@[irreducible] noncomputable def b : Array UInt8 := law_hop_lo_z.2.2.2.2.2.2.1
@[irreducible] noncomputable def h : Hdr := law_hop_lo_z.2.2.2.2.2.2.2.1
@[irreducible] noncomputable def p : Array UInt8 := law_hop_lo_z.2.2.2.2.2.2.2.2.1
@[irreducible] noncomputable def tp : TC := law_hop_lo_z.2.2.2.2.2.2.2.2.2.1
@[irreducible] noncomputable def ps : List Int := law_hop_lo_z.2.2.2.2.2.2.2.2.2.2.1
@[irreducible] noncomputable def oc : Array UInt8 := law_hop_lo_z.2.2.2.2.2.2.2.2.2.2.2.1
@[irreducible] noncomputable def to : TC := law_hop_lo_z.2.2.2.2.2.2.2.2.2.2.2.2.1
@[irreducible] noncomputable def news : Led := law_hop_lo_z.2.2.2.2.2.2.2.2.2.2.2.2.2
theorem run : ∀ (hx : (x, instObj 183 dx) ∈ news), ∀ (hd : (dx, dictOf (hdrV w c u b h) 10) ∈ news), ∀ (hb : BI b = h.options), ∀ (hp : BI p = ps), ∀ (ho : BI oc = pk h ps), ∀ (H : h.Ok), ∀ (hl : ps.length ≤ 60000), ∀ (hT : h.ttl ≤ 1), BodK w 433 [.ref x, .bytes p tp, .bytes oc to] 9 news (fun r N => N = news ∧ r = .bool true) F9 := by
  intro hx hd hb hp ho H hl hT
  have hpl := pk_len h ps
  have hg := headGood_hH H ps.length ps
  rw [← pk_eq] at hg
  have n1 := H.n1
  have f5 := (fields_pk H ps hl).2.2.2.2.2.1
  refine' BodK.enter ?ho ?hb ?_; (case ho => k_is); (case hb => first | (dsimp only [List.map, List.zip, List.zipWith]; done) | (dsimp only [List.map, List.zip, List.zipWith]; exact rfl))
  intro B' F' X' N' T' hd hu hPE hnx hret
  k_steps
  ((try with_reducible refine hnx _ ?_); exact hret _ _ _ _ ⟨rfl, rfl⟩ (by k_asm) (by first | k_asm | exact news_subL (by assumption) (by k_extra "sub") | exact news_sub (by assumption) (by intro p hp; (try simp only [List.mem_cons, List.mem_append] at hp ⊢); grind)))
end law_hop_lo_
theorem law_hop_lo (w : World) (x dx : Addr) (c u : Nat → TC) (b : Array UInt8) (h : Hdr) (p : Array UInt8) (tp : TC) (ps : List Int) (oc : Array UInt8) (to : TC) (news : Led) (hx : (x, instObj 183 dx) ∈ news) (hd : (dx, dictOf (hdrV w c u b h) 10) ∈ news)
   (hb : BI b = h.options) (hp : BI p = ps) (ho : BI oc = pk h ps) (H : h.Ok) (hl : ps.length ≤ 60000) (hT : h.ttl ≤ 1)  : Con w (.ref 433) [.ref x, .bytes p tp, .bytes oc to] 9 news (fun r N => N = news ∧ r = .bool true) := by
  refine' BodK.con ?ho ?hcd ?hb ?hq ?hloc ?hco ?hgen ?hk ?hcell ?hD (fun F9 => @wit_all _ (fra0, wrl0, 0, 0, fun _ => 0, fun _ => 0, #[], ⟨0, 0, 0, 0, 0, 0, false, false, 0, []⟩, #[], 0, [], #[], 0, []) law_hop_lo_S (by with_unfolding_all exact law_hop_lo_.run) (F9, w, x, dx, c, u, b, h, p, tp, ps, oc, to, news) hx hd hb hp ho H hl hT); (case ho => k_is); (case hcd => k_is); (case hb => first | (dsimp only [List.map, List.zip, List.zipWith]; done) | (dsimp only [List.map, List.zip, List.zipWith]; exact rfl)); (case hq => first | exact fun _ _ => BindsTo.of_eq rfl | (intro s7 X7; exact binds_K X7 rfl (by k_is) rfl rfl rfl)); (case hloc => exact locs rfl); (case hco => exact rfl); (case hgen => exact rfl); (case hk => exact rfl); (case hcell => decide); (case hD => decide)

noncomputable def law_hop_hi_S (z : Fra × World × Addr × Addr × (Nat → TC) × (Nat → TC) × Array UInt8 × Hdr × Array UInt8 × TC × List Int × Array UInt8 × TC × Led) : Prop :=
  (fun (F9 : Fra) (w : World) (x : Addr) (dx : Addr) (c : Nat → TC) (u : Nat → TC) (b : Array UInt8) (h : Hdr) (p : Array UInt8) (tp : TC) (ps : List Int) (oc : Array UInt8) (to : TC) (news : Led) => ∀ (hx : (x, instObj 183 dx) ∈ news), ∀ (hd : (dx, dictOf (hdrV w c u b h) 10) ∈ news), ∀ (hb : BI b = h.options), ∀ (hp : BI p = ps), ∀ (ho : BI oc = pk h ps), ∀ (H : h.Ok), ∀ (hl : ps.length ≤ 60000), ∀ (hT : 1 < h.ttl), BodK w 433 [.ref x, .bytes p tp, .bytes oc to] 9 news (fun r N => N = news ∧ r = .bool true) F9) (z.1) (z.2.1) (z.2.2.1) (z.2.2.2.1) (z.2.2.2.2.1) (z.2.2.2.2.2.1) (z.2.2.2.2.2.2.1) (z.2.2.2.2.2.2.2.1) (z.2.2.2.2.2.2.2.2.1) (z.2.2.2.2.2.2.2.2.2.1) (z.2.2.2.2.2.2.2.2.2.2.1) (z.2.2.2.2.2.2.2.2.2.2.2.1) (z.2.2.2.2.2.2.2.2.2.2.2.2.1) (z.2.2.2.2.2.2.2.2.2.2.2.2.2)
@[irreducible] noncomputable def law_hop_hi_z : Fra × World × Addr × Addr × (Nat → TC) × (Nat → TC) × Array UInt8 × Hdr × Array UInt8 × TC × List Int × Array UInt8 × TC × Led := wit (fra0, wrl0, 0, 0, fun _ => 0, fun _ => 0, #[], ⟨0, 0, 0, 0, 0, 0, false, false, 0, []⟩, #[], 0, [], #[], 0, []) law_hop_hi_S
namespace law_hop_hi_
@[irreducible] noncomputable def F9 : Fra := law_hop_hi_z.1
@[irreducible] noncomputable def w : World := law_hop_hi_z.2.1
@[irreducible] noncomputable def x : Addr := law_hop_hi_z.2.2.1
@[irreducible] noncomputable def dx : Addr := law_hop_hi_z.2.2.2.1
@[irreducible] noncomputable def c : Nat → TC := law_hop_hi_z.2.2.2.2.1
@[irreducible] noncomputable def u : Nat → TC := law_hop_hi_z.2.2.2.2.2.1
@[irreducible] noncomputable def b : Array UInt8 := law_hop_hi_z.2.2.2.2.2.2.1
@[irreducible] noncomputable def h : Hdr := law_hop_hi_z.2.2.2.2.2.2.2.1
@[irreducible] noncomputable def p : Array UInt8 := law_hop_hi_z.2.2.2.2.2.2.2.2.1
@[irreducible] noncomputable def tp : TC := law_hop_hi_z.2.2.2.2.2.2.2.2.2.1
@[irreducible] noncomputable def ps : List Int := law_hop_hi_z.2.2.2.2.2.2.2.2.2.2.1
@[irreducible] noncomputable def oc : Array UInt8 := law_hop_hi_z.2.2.2.2.2.2.2.2.2.2.2.1
@[irreducible] noncomputable def to : TC := law_hop_hi_z.2.2.2.2.2.2.2.2.2.2.2.2.1
@[irreducible] noncomputable def news : Led := law_hop_hi_z.2.2.2.2.2.2.2.2.2.2.2.2.2
theorem run : ∀ (hx : (x, instObj 183 dx) ∈ news), ∀ (hd : (dx, dictOf (hdrV w c u b h) 10) ∈ news), ∀ (hb : BI b = h.options), ∀ (hp : BI p = ps), ∀ (ho : BI oc = pk h ps), ∀ (H : h.Ok), ∀ (hl : ps.length ≤ 60000), ∀ (hT : 1 < h.ttl), BodK w 433 [.ref x, .bytes p tp, .bytes oc to] 9 news (fun r N => N = news ∧ r = .bool true) F9 := by
  intro hx hd hb hp ho H hl hT
  have hO := inB_of hb
  have hpl := pk_len h ps
  have hg := headGood_hH H ps.length ps
  rw [← pk_eq] at hg
  have n1 := H.n1
  have f5 := (fields_pk H ps hl).2.2.2.2.2.1
  have hh := hop_pk H hO ps hT
  have H2 : ({ h with ttl := h.ttl - 1 } : Hdr).Ok := by
    obtain ⟨s0, s1, t0, t1, p0, p1, i0, i1, l0, l1, c0, c1, o0, o1, o8, n0, n1⟩ := H
    exact ⟨s0, s1, t0, t1, p0, p1, i0, i1, by dsimp only; lia, by dsimp only; lia, c0, c1, o0, o1, o8, n0, n1⟩
  refine' BodK.enter ?ho ?hb ?_; (case ho => k_is); (case hb => first | (dsimp only [List.map, List.zip, List.zipWith]; done) | (dsimp only [List.map, List.zip, List.zipWith]; exact rfl))
  intro B' F' X' N' T' hd hu hPE hnx hret
  k_steps
  · ((try with_reducible refine hnx _ ?_); exact hret _ _ _ _ ⟨rfl, by rw [decide_eq_true hh]⟩ (by k_asm) (by first | k_asm | exact news_subL (by assumption) (by k_extra "sub") | exact news_sub (by assumption) (by intro p hp; (try simp only [List.mem_cons, List.mem_append] at hp ⊢); grind)))
  · exact absurd rfl (by assumption)
end law_hop_hi_
theorem law_hop_hi (w : World) (x dx : Addr) (c u : Nat → TC) (b : Array UInt8) (h : Hdr) (p : Array UInt8) (tp : TC) (ps : List Int) (oc : Array UInt8) (to : TC) (news : Led) (hx : (x, instObj 183 dx) ∈ news) (hd : (dx, dictOf (hdrV w c u b h) 10) ∈ news)
   (hb : BI b = h.options) (hp : BI p = ps) (ho : BI oc = pk h ps) (H : h.Ok) (hl : ps.length ≤ 60000) (hT : 1 < h.ttl)  : Con w (.ref 433) [.ref x, .bytes p tp, .bytes oc to] 9 news (fun r N => N = news ∧ r = .bool true) := by
  refine' BodK.con ?ho ?hcd ?hb ?hq ?hloc ?hco ?hgen ?hk ?hcell ?hD (fun F9 => @wit_all _ (fra0, wrl0, 0, 0, fun _ => 0, fun _ => 0, #[], ⟨0, 0, 0, 0, 0, 0, false, false, 0, []⟩, #[], 0, [], #[], 0, []) law_hop_hi_S (by with_unfolding_all exact law_hop_hi_.run) (F9, w, x, dx, c, u, b, h, p, tp, ps, oc, to, news) hx hd hb hp ho H hl hT); (case ho => k_is); (case hcd => k_is); (case hb => first | (dsimp only [List.map, List.zip, List.zipWith]; done) | (dsimp only [List.map, List.zip, List.zipWith]; exact rfl)); (case hq => first | exact fun _ _ => BindsTo.of_eq rfl | (intro s7 X7; exact binds_K X7 rfl (by k_is) rfl rfl rfl)); (case hloc => exact locs rfl); (case hco => exact rfl); (case hgen => exact rfl); (case hk => exact rfl); (case hcell => decide); (case hD => decide)

theorem law_hop_c (w : World) (x dx : Addr) (c u : Nat → TC) (b : Array UInt8) (h : Hdr) (p : Array UInt8) (tp : TC) (ps : List Int) (oc : Array UInt8) (to : TC) (news : Led) (hx : (x, instObj 183 dx) ∈ news) (hd : (dx, dictOf (hdrV w c u b h) 10) ∈ news)
   (hb : BI b = h.options) (hp : BI p = ps) (ho : BI oc = pk h ps) (H : h.Ok) (hl : ps.length ≤ 60000) :
   Con w (.ref 433) [.ref x, .bytes p tp, .bytes oc to] 9 news (fun r N => N = news ∧ r = .bool true) := by
  by_cases hT : h.ttl ≤ 1
  · exact law_hop_lo w x dx c u b h p tp ps oc to news hx hd hb hp ho H hl hT
  · exact law_hop_hi w x dx c u b h p tp ps oc to news hx hd hb hp ho H hl (by lia)
theorem law_hop_c_k (w : World) (x dx : Addr) (c u : Nat → TC) (b : Array UInt8) (h : Hdr) (p : Array UInt8) (tp : TC) (ps : List Int) (oc : Array UInt8) (to : TC) (news : Led) (hx : (x, instObj 183 dx) ∈ news) (hd : (dx, dictOf (hdrV w c u b h) 10) ∈ news)
   (hb : BI b = h.options) (hp : BI p = ps) (ho : BI oc = pk h ps) (H : h.Ok) (hl : ps.length ≤ 60000)  :
   Kon w (.ref 433) [.ref x, .bytes p tp, .bytes oc to] 9 news (fun K9 =>  K9 (.bool true) (news))  :=
  Con.kon (law_hop_c w x dx c u b h p tp ps oc to news hx hd hb hp ho H hl) (by
    rintro K9 g9 r9 N9 ⟨rfl, rfl⟩
    exact g9)
theorem reg_p18d_1 : True := by
  k_with "call ref" => (k_here; (with_reducible show wpAny _ _ (call (Value.ref 433) _) _ _ _); k_dflt (refine' Kon.go ?_ ?_ ?_ ?_ ?_ ?_ ?_ ?_ ?_ ?_; walk_at "side 0"; (any_goals ((with_reducible show Kon _ _ _ _ _ _); exact (law_hop_c_k _ _ _ _ _ _ _ _ _ _ _ _ _ (by k_mem) (by k_mem) (by assumption) (by assumption) (by assumption) (by assumption) (by lia)))); walk_at "side 9"); intro _ _ _ _)
  trivial

/-! _law_pool: it reads the script, which stands in the ground -/
noncomputable def ConB (w : World) (f : Value) (args : List Value) (D : Nat) (N₀ : Led) (Pre : Heap → Prop) (Post : Value → Led → Prop) : Prop :=
  ∀ (dp un : Nat) (gd : Option (List Code)) (cn : Str) (cs : Scope) (a : Addr) (ccd : Value) (cl : List (Str × Addr)) (outer : List Env) (A₀ : Around) (base h₀ : Heap) (L : Addr) (m : Str → Option Value) (s : Shared) (Q E : Value → Shared → Prop)
   (p : Program) (loose : List Str) (mean : ExcName → Option Value) (mg mb : Str → Option Value),
    Below A₀ base outer h₀ → Fr h₀ L s.heap m → (Mine.hk.heap_1 w.params).In h₀ → News h₀ L s.heap N₀ → Top p loose mean mg mb h₀ → cs.kind = .function →
    dp + D < recursionLimit → un + 8 * D < cLine → Pre base →
    (∀ r N₁ h' tk', Post r N₁ → Fr h₀ L h' m → News h₀ L h' N₁ → Q r { s with heap := h', toks := tk' }) →
      wpAny (model PySem.Challenge.rw_nu0131_01.row.prog w) (ktrTop dp un gd cn cs L a ccd cl outer) (call f args) Q E s
theorem BodK.conB {w : World} {args : List Value} {D : Nat} {N₀ : Led} {Pre : Heap → Prop} {Post : Value → Led → Prop}
    {name qual : Str} {params : Arguments} {body : List Stmt} {scope : Scope} {dV kV doc pm cdv ct oc : Value} {an od : Option Addr} {osl : Array (Option Value)} {f : Addr} {binds : List (Str × Value)}
    (ho : (Mine.hk.heap_1 w.params).lookup f = some ⟨oc, od, .func (fnOf name qual params body scope dV kV doc pm an cdv ct), osl⟩) (hcd : codeIn (Mine.hk.heap_1 w.params) cdv qual = true)
    (hb : (params.args.map (·.arg)).zip args = binds) (hq : ∀ s, (Mine.hk.heap_1 w.params).In s.heap → BindsTo s (fnOf name qual params body scope dV kV doc pm an cdv ct) ⟨args, []⟩ binds) (hloc : ∀ y ∈ binds, scope.names.lookup y.1 = some .local)
    (hco : scope.isCoroutine = false) (hgen : scope.isGenerator = false) (hk : scope.kind = .function) (hcell : ∀ x ∈ scope.names, x.2 ≠ .cell)
    (hD : 1 ≤ D) (h : ∀ F, Pre F.base → BodK w f args D N₀ Post F) : ConB w (.ref f) args D N₀ Pre Post := by
  intro dp un gd cn cs a ccd cl outer A₀ base h₀ L m s Q E p loose mean mg mb B F X N T hk' hd hu hpre hret
  refine wpAny_call ?_
  refine code_def B F X N T (A := ktrTop dp un gd cn cs L a ccd cl outer) (outer := outer) rfl rfl hk' ho hcd (show dp < recursionLimit by lia) (hq s (X.keeps F.keep)) hloc ?_ hco hgen hk hcell
  intro g' L' h' FG' F' N' B' X' T'
  have h9 : ∀ F, Pre F.base → Bod w qual scope f cdv body binds D N₀ Post F := by
    intro F hF
    have h8 := h F hF
    unfold BodK at h8
    rw [fdOf_is ho] at h8
    subst hb
    exact h8
  refine h9 ⟨dp + 1, un + 3, gd, _, _, base, g', L', _, _, _, p, loose, mean, mg, mb, listOf #[] 0⟩ hpre B' F' X' N' T' (by show dp + 1 + D < recursionLimit + 1; lia) (by show un + 3 + 8 * D < cLine + 8; lia) (by passes_own) (fun _ x => x) ?_
  intro m' r N₁ h₂ tk' hP hF hN
  refine ⟨L', m', N₁, hF, hN, ?_⟩
  intro hF2 hN2
  exact hret _ _ _ _ hP hF2 hN2
theorem src_of {a b : Int} {ta tb : TC} {n : Nat} (h0 : 0 ≤ a) (h1 : 0 ≤ b) (h2 : b < 2147483647) : SrcO (listOf #[.int a ta, .int b tb] n) := ⟨a, b, ta, tb, n, rfl, h0, h1, h2⟩
noncomputable def law_pool_c_S (z : Fra × World × Addr × List Value × List Int × TC × Led) : Prop :=
  (fun (F9 : Fra) (w : World) (la : Addr) (vs : List Value) (ns : List Int) (tk : TC) (news : Led) => ∀ (hi : IntsAre vs ns), ∀ (hl : ns.length ≤ 1000), (fun b => b.IsList la vs.toArray) F9.base → BodK w 351 [.ref la, .int 0 tk] 2 news  (fun r N => ∃ src o, r = .ref src ∧ N = (src, o) :: news ∧ SrcO o ∧ ∀ p ∈ news, p.1 < src) F9) (z.1) (z.2.1) (z.2.2.1) (z.2.2.2.1) (z.2.2.2.2.1) (z.2.2.2.2.2.1) (z.2.2.2.2.2.2)
@[irreducible] noncomputable def law_pool_c_z : Fra × World × Addr × List Value × List Int × TC × Led := wit (fra0, wrl0, 0, [], [], 0, []) law_pool_c_S
namespace law_pool_c_
@[irreducible] noncomputable def F9 : Fra := law_pool_c_z.1
@[irreducible] noncomputable def w : World := law_pool_c_z.2.1
@[irreducible] noncomputable def la : Addr := law_pool_c_z.2.2.1
@[irreducible] noncomputable def vs : List Value := law_pool_c_z.2.2.2.1
@[irreducible] noncomputable def ns : List Int := law_pool_c_z.2.2.2.2.1
@[irreducible] noncomputable def tk : TC := law_pool_c_z.2.2.2.2.2.1
@[irreducible] noncomputable def news : Led := law_pool_c_z.2.2.2.2.2.2
theorem run : ∀ (hi : IntsAre vs ns), ∀ (hl : ns.length ≤ 1000), (fun b => b.IsList la vs.toArray) F9.base → BodK w 351 [.ref la, .int 0 tk] 2 news  (fun r N => ∃ src o, r = .ref src ∧ N = (src, o) :: news ∧ SrcO o ∧ ∀ p ∈ news, p.1 < src) F9 := by
  intro hi hl hpre
  (try dsimp only at hpre)
  refine' BodK.enter ?ho ?hb ?_; (case ho => k_is); (case hb => first | (dsimp only [List.map, List.zip, List.zipWith]; done) | (dsimp only [List.map, List.zip, List.zipWith]; exact rfl))
  intro B' F' X' N' T' hd hu hPE hnx hret
  k_lift B'
  k_steps
  all_goals (refine hret _ _ _ _ ⟨_, _, rfl, rfl, src_of ?sa ?sb ?sc, by assumption⟩ (by k_asm) (by k_asm); (case sa => exact Int.mul_nonneg (by split <;> lia) (by split <;> lia)); (case sb => exact Int.emod_nonneg _ (by decide)); (case sc => exact Int.emod_lt_of_pos _ (by decide)))
end law_pool_c_
theorem law_pool_c (w : World) (la : Addr) (vs : List Value) (ns : List Int) (tk : TC) (news : Led) (hi : IntsAre vs ns) (hl : ns.length ≤ 1000)  : ConB w (.ref 351) [.ref la, .int 0 tk] 2 news (fun b => b.IsList la vs.toArray) (fun r N => ∃ src o, r = .ref src ∧ N = (src, o) :: news ∧ SrcO o ∧ ∀ p ∈ news, p.1 < src) := by
  refine' BodK.conB ?ho ?hcd ?hb ?hq ?hloc ?hco ?hgen ?hk ?hcell ?hD (fun F9 hpre => @wit_all _ (fra0, wrl0, 0, [], [], 0, []) law_pool_c_S (by with_unfolding_all exact law_pool_c_.run) (F9, w, la, vs, ns, tk, news) hi hl hpre); (case ho => k_is); (case hcd => k_is); (case hb => first | (dsimp only [List.map, List.zip, List.zipWith]; done) | (dsimp only [List.map, List.zip, List.zipWith]; exact rfl)); (case hq => first | exact fun _ _ => BindsTo.of_eq rfl | (intro s7 X7; exact binds_K X7 rfl (by k_is) rfl rfl rfl)); (case hloc => exact locs rfl); (case hco => exact rfl); (case hgen => exact rfl); (case hk => exact rfl); (case hcell => decide); (case hD => decide)

theorem ConB.use {w : World} {f : Value} {args : List Value} {D : Nat} {N₀ : Led} {Pre : Heap → Prop} {Post : Value → Led → Prop} (C : ConB w f args D N₀ Pre Post)
  {dp un : Nat} {gd : Option (List Code)} {cn : Str} {cs : Scope} {a : Addr} {ccd : Value} {cl : List (Str × Addr)} {outer : List Env} {A₀ : Around} {base h₀ : Heap} {L : Addr} {m : Str → Option Value} {s : Shared} {Q E : Value → Shared → Prop}
  {p : Program} {loose : List Str} {mean : ExcName → Option Value} {mg mb : Str → Option Value}
    (B : Below A₀ base outer h₀) (F : Fr h₀ L s.heap m) (X : (Mine.hk.heap_1 w.params).In h₀) (N : News h₀ L s.heap N₀) (T : Top p loose mean mg mb h₀) (hk : cs.kind = .function)
    (hd : dp + D < recursionLimit) (hu : un + 8 * D < cLine) (hpre : Pre base)
    (ret : ∀ r N₁ h' tk', Post r N₁ → Fr h₀ L h' m → News h₀ L h' N₁ → Q r { s with heap := h', toks := tk' }) :
      wpAny (model PySem.Challenge.rw_nu0131_01.row.prog w) (ktrTop dp un gd cn cs L a ccd cl outer) (call f args) Q E s :=
  C dp un gd cn cs a ccd cl outer A₀ base h₀ L m s Q E p loose mean mg mb B F X N T hk hd hu hpre ret
theorem reg_p18e_0 : True := by
  k_with "call ref" => (k_here; (with_reducible show wpAny _ _ (call (Value.ref 351) _) _ _ _); k_dflt (refine' ConB.use (law_pool_c _ _ _ _ _ _ ?z1 ?z2) ?B ?F ?X ?N ?T ?hk ?hd ?hu ?P ?_; (case B => k_asm); (case F => k_asm); (case X => k_asm); (case N => k_asm); (case T => k_asm); (case hk => first | exact rfl | assumption); (case hd => ktr_room); (case hu => ktr_units); (case P => assumption); (case z1 => assumption); (case z2 => lia)); intro _ _ _ _ hP' _ _; obtain ⟨src', o', eq1', eq2', hS', l1'⟩ := hP'; (replace eq1' := Eq.symm eq1'); subst eq1'; (replace eq2' := Eq.symm eq2'); subst eq2'; (try k_lt l1'); (try dsimp only))
  trivial

/-! the plain law of the options: what is written is read back -/
theorem getD_pre (pre r : List Int) (j : Nat) : (pre ++ r).getD (pre.length + j) 0 = r.getD j 0 := by
  rw [List.getD_eq_getElem?_getD, List.getElem?_append_right (by lia), Nat.add_sub_cancel_left, ← List.getD_eq_getElem?_getD]
theorem getD_preI (pre r : List Int) {i : Int} (j : Nat) (hi : i = (pre.length : Int) + (j : Int)) : (pre ++ r).getD i.toNat 0 = r.getD j 0 := by
  rw [show i.toNat = pre.length + j from by lia]; exact getD_pre pre r j
theorem rd_gen {zs : List Int} {R : Option (List (Int × List Int))} (hz : ∀ (pre : List Int) (n : Nat), 0 < n → rdO (pre ++ zs) n (pre.length : Int) = R) :
    ∀ (l : List (Int × List Int)) (pre : List Int) (n : Nat), (∀ q ∈ l, optOk q) → (rawO l).length < n → rdO (pre ++ (rawO l ++ zs)) n (pre.length : Int) = R.map (l ++ ·)
  | [], pre, n, _, hn => by
    have e : rawO [] ++ zs = zs := rfl
    rw [e, hz pre n (by lia)]
    cases R <;> simp
  | q :: r, pre, n, hok, hn => by
    obtain ⟨k, ks⟩ := q
    have hq := hok (k, ks) (.head _)
    have hr : ∀ x ∈ r, optOk x := fun x hx => hok x (.tail _ hx)
    have e : rawO ((k, ks) :: r) = optB (k, ks) ++ rawO r := rfl
    have hlen : (rawO ((k, ks) :: r)).length = (optB (k, ks)).length + (rawO r).length := by rw [e, List.length_append]
    obtain ⟨n, rfl⟩ : ∃ m, n = m + 1 := ⟨n - 1, by lia⟩
    by_cases hk : k = 1
    · have hks : ks = [] := by
        rcases hq with ⟨_, h⟩ | ⟨h, _⟩
        · exact h
        · dsimp only at h; lia
      subst hk hks
      have eb : optB (1, []) = [1] := rfl
      rw [eb, List.length_singleton] at hlen
      have ih := rd_gen hz r (pre ++ [1]) n hr (by lia)
      have el : (((pre ++ [1]).length : Nat) : Int) = (pre.length : Int) + 1 := by simp
      have ea : pre ++ (rawO ((1, []) :: r) ++ zs) = pre ++ [1] ++ (rawO r ++ zs) := by rw [e, eb]; simp
      rw [el, ← ea] at ih
      have eg : (pre ++ (rawO ((1, []) :: r) ++ zs)).getD (pre.length : Int).toNat 0 = 1 := by
        rw [getD_preI _ _ 0 (by lia), e, eb]; rfl
      have ell : (pre.length : Int) < ((pre ++ (rawO ((1, []) :: r) ++ zs)).length : Int) := by
        rw [List.length_append, List.length_append, hlen]; lia
      rw [rdO, if_pos ⟨ell, by rw [eg]; decide⟩, if_pos eg, ih]
      cases R <;> simp
    · have h3 : 2 ≤ k ∧ k ≤ 255 ∧ ks.length + 2 ≤ 40 := by
        rcases hq with ⟨h, _⟩ | h
        · exact absurd h hk
        · exact h
      have eb : optB (k, ks) = [k, (ks.length : Int) + 2] ++ ks := by unfold optB; rw [if_neg hk]
      have ebl : (optB (k, ks)).length = ks.length + 2 := by rw [eb]; simp
      rw [ebl] at hlen
      have ih := rd_gen hz r (pre ++ optB (k, ks)) n hr (by lia)
      have el : (((pre ++ optB (k, ks)).length : Nat) : Int) = (pre.length : Int) + ((ks.length : Int) + 2) := by rw [List.length_append, ebl]; lia
      have ea : pre ++ (rawO ((k, ks) :: r) ++ zs) = pre ++ optB (k, ks) ++ (rawO r ++ zs) := by rw [e]; simp
      rw [el, ← ea] at ih
      have er : rawO ((k, ks) :: r) ++ zs = k :: ((ks.length : Int) + 2) :: (ks ++ (rawO r ++ zs)) := by rw [e, eb]; simp
      have eg : (pre ++ (rawO ((k, ks) :: r) ++ zs)).getD (pre.length : Int).toNat 0 = k := by
        rw [getD_preI _ _ 0 (by lia), er]; rfl
      have eg1 : (pre ++ (rawO ((k, ks) :: r) ++ zs)).getD ((pre.length : Int) + 1).toNat 0 = (ks.length : Int) + 2 := by
        rw [getD_preI _ _ 1 (by lia), er]; rfl
      have ell : ((pre ++ (rawO ((k, ks) :: r) ++ zs)).length : Int) = (pre.length : Int) + ((ks.length : Int) + 2) + ((rawO r).length : Int) + (zs.length : Int) := by
        rw [List.length_append, List.length_append, hlen]; lia
      have ed : ((pre ++ (rawO ((k, ks) :: r) ++ zs)).drop ((pre.length : Int) + 2).toNat).take (((pre.length : Int) + ((ks.length : Int) + 2)).toNat - ((pre.length : Int) + 2).toNat) = ks := by
        rw [show ((pre.length : Int) + 2).toNat = pre.length + 2 from by lia, show ((pre.length : Int) + ((ks.length : Int) + 2)).toNat - (pre.length + 2) = ks.length from by lia, ← List.drop_drop, List.drop_left, er]
        simp
      rw [rdO, if_pos ⟨by lia, by rw [eg]; lia⟩, if_neg (by rw [eg]; exact hk), if_pos (by unfold sizeGood; rw [eg1]; lia), eg, eg1, ed, ih]
      cases R <;> simp
theorem rd_zeros (j : Nat) (pre : List Int) (n : Nat) (hn : 0 < n) : rdO (pre ++ List.replicate j 0) n (pre.length : Int) = some [] := by
  obtain ⟨n, rfl⟩ : ∃ m, n = m + 1 := ⟨n - 1, by lia⟩
  rw [rdO, if_neg]
  rintro ⟨h1, h2⟩
  rw [getD_preI _ _ 0 (by lia)] at h2
  cases j with
  | zero => simp at h1
  | succ j => exact h2 rfl
theorem rd_bad3 (pre : List Int) (n : Nat) (hn : 0 < n) : rdO (pre ++ [68, 3]) n (pre.length : Int) = none := by
  obtain ⟨n, rfl⟩ : ∃ m, n = m + 1 := ⟨n - 1, by lia⟩
  have e0 : (pre ++ [68, 3]).getD (pre.length : Int).toNat 0 = 68 := by rw [getD_preI _ _ 0 (by lia)]; rfl
  have e1 : (pre ++ [68, 3]).getD ((pre.length : Int) + 1).toNat 0 = 3 := by rw [getD_preI _ _ 1 (by lia)]; rfl
  have el : ((pre ++ [68, 3]).length : Int) = (pre.length : Int) + 2 := by simp
  rw [rdO, if_pos ⟨by lia, by rw [e0]; decide⟩, if_neg (by rw [e0]; decide), if_neg]
  unfold sizeGood
  rw [e1]; lia
theorem rd_wr {l : List (Int × List Int)} (h : ∀ q ∈ l, optOk q) : rdAll (wrO l) = some l := by
  have e := rd_gen (fun pre n hn => rd_zeros (padN (rawO l).length) pre n hn) l [] ((wrO l).length + 1) h (by unfold wrO; rw [padO_len]; lia)
  unfold rdAll
  simp only [List.nil_append, Option.map_some, List.append_nil] at e
  exact e
theorem rd_wr_bad {l : List (Int × List Int)} (h : ∀ q ∈ l, optOk q) (hp : padN (rawO l).length = 0) : rdAll (wrO l ++ [68, 3]) = none := by
  have ew : wrO l = rawO l := by unfold wrO; rw [padO_eq, hp]; simp
  rw [ew]
  have e := rd_gen rd_bad3 l [] ((rawO l ++ [68, 3]).length + 1) h (by rw [List.length_append]; lia)
  unfold rdAll
  simp only [List.nil_append, Option.map_none] at e
  exact e
theorem wr_last {l : List (Int × List Int)} (hp : padN (rawO l).length ≠ 0) : wrO l ≠ [] ∧ (wrO l).drop ((wrO l).length - 1) = [0] := by
  obtain ⟨j, hj⟩ : ∃ j, padN (rawO l).length = j + 1 := ⟨padN (rawO l).length - 1, by lia⟩
  have ew : wrO l = rawO l ++ List.replicate j 0 ++ [0] := by unfold wrO; rw [padO_eq, hj, List.replicate_succ', List.append_assoc]
  rw [ew]
  refine ⟨by simp, ?_⟩
  rw [List.length_append, List.length_singleton, Nat.add_sub_cancel, List.drop_left]
theorem draw_filter {l : List (Int × List Int)} (f : Int × List Int → Bool) : (rawO (l.filter f)).length ≤ (rawO l).length := by
  induction l with
  | nil => exact Nat.le_refl _
  | cons q r ih =>
    have e : ∀ x : List (Int × List Int), rawO (q :: x) = optB q ++ rawO x := fun _ => rfl
    rw [List.filter_cons]
    split
    · rw [e, e, List.length_append, List.length_append]; lia
    · rw [e, List.length_append]; lia

/-! the plain law of the records of the way -/
noncomputable def flatW (as : List Int) : List Int := as.flatMap w32
theorem flatW_len (as : List Int) : (flatW as).length = 4 * as.length := by
  induction as with
  | nil => rfl
  | cons a r ih =>
    have e : flatW (a :: r) = w32 a ++ flatW r := rfl
    rw [e, List.length_append, ih, w32_len, List.length_cons]; lia
theorem flatW_snoc (as : List Int) (a : Int) : flatW (as ++ [a]) = flatW as ++ w32 a := by simp [flatW]
/-- a record with the addresses as told and the octets zs still to come -/
noncomputable def RW (as zs : List Int) : List Int := [4 + 4 * (as.length : Int)] ++ flatW as ++ zs
theorem RW_len (as zs : List Int) : (RW as zs).length = 1 + 4 * as.length + zs.length := by
  simp only [RW, List.length_append, flatW_len, List.length_cons, List.length_nil]
theorem RW_head (as zs : List Int) : (RW as zs).getD 0 0 = 4 + 4 * (as.length : Int) := rfl
theorem RW_good (as zs : List Int) : ptrGood (RW as zs) := ⟨by rw [RW_len]; lia, by rw [RW_head]; exact Int.le_add_of_nonneg_right (by lia)⟩
theorem RW_new (n : Int) : [4] ++ List.replicate (4 * n).toNat 0 = RW [] (List.replicate (4 * n).toNat 0) := rfl
theorem rec_step {as zs : List Int} {a : Int} (h : 4 ≤ zs.length) : recO (RW as zs) a = RW (as ++ [a]) (zs.drop 4) := by
  unfold recO
  rw [RW_head, RW_len, if_neg (by lia)]
  have e1 : (4 + 4 * (as.length : Int) - 3).toNat - 1 = 4 * as.length := by rw [tn_43]; exact Nat.add_sub_cancel_left ..
  have e2 : (4 + 4 * (as.length : Int) + 1).toNat = 1 + 4 * as.length + 4 := by lia
  have e3 : (RW as zs).drop 1 = flatW as ++ zs := by unfold RW; simp
  have e4 : (RW as zs).drop (1 + 4 * as.length + 4) = zs.drop 4 := by
    rw [← List.drop_drop, ← List.drop_drop, e3, ← flatW_len, List.drop_left]
  rw [e1, e2, e3, e4, ← flatW_len, List.take_left]
  unfold RW
  rw [flatW_snoc, List.length_append, List.length_singleton]
  simp only [List.append_assoc]
  congr 2
theorem rec_full {as : List Int} {a : Int} : recO (RW as []) a = RW as [] := by
  unfold recO
  rw [RW_head, RW_len, if_pos (by simp; lia)]
theorem flat_get : ∀ (as Z : List Int) (i j : Nat), i < as.length → j < 4 → (flatW as ++ Z).getD (4 * i + j) 0 = (w32 (as.getD i 0)).getD j 0
  | [], _, _, _, h, _ => by simp at h
  | a :: r, Z, 0, j, _, hj => by
    have e : flatW (a :: r) ++ Z = w32 a ++ (flatW r ++ Z) := by simp [flatW]
    rw [e, Nat.mul_zero, Nat.zero_add, getD_app (by rw [w32_len]; exact hj)]; rfl
  | a :: r, Z, i + 1, j, h, hj => by
    have e : flatW (a :: r) ++ Z = w32 a ++ (flatW r ++ Z) := by simp [flatW]
    have ih := flat_get r Z i j (by simpa using h) hj
    rw [e, show 4 * (i + 1) + j = (w32 a).length + (4 * i + j) from by rw [w32_len]; lia, getD_pre, ih]
    rfl
theorem w32_back {a : Int} (h0 : 0 ≤ a) (h1 : a < 4294967296) : ((w32 a).getD 0 0 * 256 + (w32 a).getD 1 0) * 65536 + ((w32 a).getD 2 0 * 256 + (w32 a).getD 3 0) = a := by
  exact by32 h0 h1
theorem g32_flat {as Z : List Int} {p : Int} {i : Nat} (hi : i < as.length) (h0 : 0 ≤ as.getD i 0) (h1 : as.getD i 0 < 4294967296) :
    g16 (p :: (flatW as ++ Z)) (1 + 4 * i) * 65536 + g16 (p :: (flatW as ++ Z)) (3 + 4 * i) = as.getD i 0 := by
  unfold g16
  have a0 : (p :: (flatW as ++ Z)).getD (1 + 4 * i) 0 = (w32 (as.getD i 0)).getD 0 0 := by rw [show 1 + 4 * i = (4 * i + 0) + 1 from by lia, List.getD_cons_succ]; exact flat_get as Z i 0 hi (by decide)
  have a1 : (p :: (flatW as ++ Z)).getD (1 + 4 * i + 1) 0 = (w32 (as.getD i 0)).getD 1 0 := by rw [show 1 + 4 * i + 1 = (4 * i + 1) + 1 from by lia, List.getD_cons_succ]; exact flat_get as Z i 1 hi (by decide)
  have a2 : (p :: (flatW as ++ Z)).getD (3 + 4 * i) 0 = (w32 (as.getD i 0)).getD 2 0 := by rw [show 3 + 4 * i = (4 * i + 2) + 1 from by lia, List.getD_cons_succ]; exact flat_get as Z i 2 hi (by decide)
  have a3 : (p :: (flatW as ++ Z)).getD (3 + 4 * i + 1) 0 = (w32 (as.getD i 0)).getD 3 0 := by rw [show 3 + 4 * i + 1 = (4 * i + 3) + 1 from by lia, List.getD_cons_succ]; exact flat_get as Z i 3 hi (by decide)
  rw [a0, a1, a2, a3]
  exact w32_back h0 h1
noncomputable def InA (as : List Int) : Prop := ∀ a ∈ as, 0 ≤ a ∧ a < 4294967296
theorem getD_inA {as : List Int} (h : InA as) {i : Nat} (hi : i < as.length) : 0 ≤ as.getD i 0 ∧ as.getD i 0 < 4294967296 := by
  have e : as.getD i 0 = as[i] := by simp [hi]
  rw [e]; exact h _ (List.getElem_mem hi)
theorem recL_RW {as zs : List Int} (h : InA as) : recL (RW as zs) = as := by
  have hn : recN (RW as zs) = as.length := by
    unfold recN
    rw [RW_head, RW_len]
    exact rec_len _ _
  unfold recL
  rw [hn]
  apply List.ext_getElem
  · simp
  · intro i h1 h2
    rw [List.getElem_map, List.getElem_range]
    have e : RW as zs = (4 + 4 * (as.length : Int)) :: (flatW as ++ zs) := by simp [RW]
    have z := getD_inA h h2
    rw [e, g32_flat h2 z.1 z.2]
    simp [h2]
theorem g32_next {as : List Int} {a : Int} {r : List Int} (h0 : 0 ≤ a) (h1 : a < 4294967296) : g32 (RW as (flatW (a :: r))) ((RW as (flatW (a :: r))).getD 0 0 - 3).toNat = a := by
  have e : RW as (flatW (a :: r)) = (4 + 4 * (as.length : Int)) :: (flatW (as ++ [a]) ++ flatW r) := by simp [RW, flatW]
  have e1 : ((RW as (flatW (a :: r))).getD 0 0 - 3).toNat = 1 + 4 * as.length := by rw [RW_head]; exact tn_43 _
  have eg : (as ++ [a]).getD as.length 0 = a := by simp
  rw [e1]
  unfold g32
  rw [show 1 + 4 * as.length + 2 = 3 + 4 * as.length from by lia, e]
  have z := g32_flat (as := as ++ [a]) (Z := flatW r) (p := 4 + 4 * (as.length : Int)) (i := as.length) (by simp) (by rw [eg]; exact h0) (by rw [eg]; exact h1)
  rw [z, eg]
theorem inA_snoc {as : List Int} {a : Int} (h : InA as) (h0 : 0 ≤ a) (h1 : a < 4294967296) : InA (as ++ [a]) := fun x hx => (List.mem_append.mp hx).elim (h x) fun z => by rw [List.mem_singleton.mp z]; exact ⟨h0, h1⟩
/-- one address more, as long as there is room -/
noncomputable def addA (m : Nat) (as : List Int) (a : Int) : List Int := if as.length < m then as ++ [a] else as
theorem rec_add {m : Nat} {as : List Int} {a : Int} (h : as.length ≤ m) : recO (RW as (List.replicate (4 * (m - as.length)) 0)) a = RW (addA m as a) (List.replicate (4 * (m - (addA m as a).length)) 0) := by
  unfold addA
  by_cases hl : as.length < m
  · rw [if_pos hl, rec_step (by rw [List.length_replicate]; lia), List.drop_replicate, List.length_append, List.length_singleton, mul_less]
  · have e : m - as.length = 0 := Nat.sub_eq_zero_of_le (Nat.not_lt.mp hl)
    rw [if_neg hl, e]
    exact rec_full
theorem addA_le {m : Nat} {as : List Int} {a : Int} (h : as.length ≤ m) : (addA m as a).length ≤ m := by
  unfold addA; split
  · rw [List.length_append, List.length_singleton]; lia
  · exact h
theorem addA_in {m : Nat} {as : List Int} {a : Int} (h : InA as) (h0 : 0 ≤ a) (h1 : a < 4294967296) : InA (addA m as a) := by
  unfold addA; split
  · exact inA_snoc h h0 h1
  · exact h

/-! contracts of defs that catch: the slots of the frames below may have changed -/
abbrev frs (l : List Env) : List Addr := l.filterMap (·.frame)
theorem frs_cons {env : Env} {outer : List Env} {L b : Addr} (hf : env.frame = some L) (hm : b ∈ frs (env :: outer)) : b = L ∨ b ∈ frs outer := by
  obtain ⟨e, he, hb⟩ := List.mem_filterMap.mp hm
  rcases List.mem_cons.mp he with rfl | he
  · exact .inl (Option.some.inj (hb.symm.trans hf))
  · exact .inr (List.mem_filterMap.mpr ⟨e, he, hb⟩)
/-- behind the call: the caller's ground, its frames' slots changed -/
theorem turn_back {A₀ A : Around} {base h₀ h g' : Heap} {s : Shared} {outer : List Env} {env : Env} {L L' : Addr} {m m' : Str → Option Value} {news news' : Led}
    (B : Below A₀ base outer h₀) (F : Fr h₀ L s.heap m) (N : News h₀ L s.heap news) (D : KtsDicts (frs outer) h₀) (hA : A.frames = some (env :: outer)) (hf : env.frame = some L) (hke : env.scope.kind = .function)
    (T : KtsTurn (frs (env :: outer)) (hideAll s.heap (news.map (·.1))) g') (F' : Fr g' L' h m') (N' : News g' L' h news') :
    ∃ h₁, KtsTurn (frs outer) h₀ h₁ ∧ Fr h₁ L h m ∧ News h₁ L h news' ∧ Below A₀ base outer h₁ ∧ KtsDicts (frs outer) h₁ := by
  obtain ⟨FG, BG, st, _⟩ := groundX (R := fun _ _ => True) B F N hA hf hke
  obtain ⟨oL, es, ep, hL, hLd, hLk, hLf⟩ := FG.ns
  have n₀ : h₀.get? L = none := kts_self F
  obtain ⟨sl, hs⟩ := T.up hL
  have apart : ∀ b o, h₀.get? b = some o → b ∉ frs outer → b ∉ frs (env :: outer) := fun b o e nm q => by
    rcases frs_cons hf q with rfl | z
    · rw [n₀] at e; cases e
    · exact nm z
  have up : ∀ b o, h₀.get? b = some o → ∃ sl', g'.get? b = some { o with slots := sl' } := fun b o e => T.up (st b o e)
  obtain ⟨T₁, S₁⟩ := kts_turn_at (h := h) (fs := frs outer) (g := h₀) (fun b hb => by obtain ⟨o, _, _, ho, _⟩ := D b hb; exact ⟨o, ho⟩)
    (fun b o e nm => F'.keep b o (T.other b o (st b o e) (apart b o e nm))) (fun b o e _ => by obtain ⟨sl', hs'⟩ := up b o e; exact ⟨sl', F'.keep _ _ hs'⟩)
  refine ⟨_, T₁, ⟨⟨_, es, ep, F'.keep _ _ hs, hLd, hLk, hLf⟩, S₁, by rw [T₁.size]; exact F.above⟩, fun p hp => ⟨(N' p hp).1, fun q => ?_, ?_⟩, ⟨B.stack, fun b o e => T₁.other b o (B.stays b o e) fun hm => ?_, B.frames.of_keeps fun b o e _ => ?_⟩, D.turn T₁⟩
  · have z := (N' p hp).2.2
    rw [q, hs] at z; cases z
  · refine T₁.none_ _ ?_
    cases q : h₀.get? p.1 with
    | none => rfl
    | some o =>
      obtain ⟨sl', hs'⟩ := up _ _ q
      have z := (N' p hp).2.2
      rw [hs'] at z; cases z
  · rw [(B.frames.mem hm).1] at e; cases e
  · obtain ⟨sl', hs'⟩ := T₁.up e
    exact ⟨_, hs', rfl⟩
noncomputable def LeaveY (fs : List Addr) (A₀ : Around) (base : Heap) (outer : List Env) (K : Frag) (p : Program) (loose : List Str) (mean : ExcName → Option Value) (mg mb : Str → Option Value) (g₀ : Heap) (L : Addr) (m : Str → Option Value) (g : Heap) (R : Result → Shared → Prop) (v : Value) (s' : Shared) : Prop :=
  ∃ g' L' m' news', KtsTurn fs g g' ∧ Fr g' L' s'.heap m' ∧ News g' L' s'.heap news' ∧ ∀ h₁, KtsTurn (frs outer) g₀ h₁ → Fr h₁ L s'.heap m → News h₁ L s'.heap news' → Below A₀ base outer h₁ → K.In h₁ → Top p loose mean mg mb h₁ → KtsDicts (frs outer) h₁ → R (.ok (.ret v)) s'
theorem leaveY_ {fs : List Addr} {A₀ : Around} {base : Heap} {outer : List Env} {K : Frag} {p : Program} {loose : List Str} {mean : ExcName → Option Value} {mg mb : Str → Option Value} {g₀ g g' : Heap} {L L' : Addr} {m m' : Str → Option Value} {news' : Led} {R : Result → Shared → Prop} {v : Value} {s' : Shared}
    (F : Fr g' L' s'.heap m') (N : News g' L' s'.heap news') (T : KtsTurn fs g g')
    (k : ∀ h₁, KtsTurn (frs outer) g₀ h₁ → Fr h₁ L s'.heap m → News h₁ L s'.heap news' → Below A₀ base outer h₁ → K.In h₁ → Top p loose mean mg mb h₁ → KtsDicts (frs outer) h₁ → R (.ok (.ret v)) s') :
    LeaveY fs A₀ base outer K p loose mean mg mb g₀ L m g R v s' := ⟨g', L', m', news', T, F, N, k⟩
section
variable {prog : Program} {w : World} {A₀ A : Around} {s : Shared} {base h₀ : Heap} {outer : List Env} {env : Env} {L : Addr} {m : Str → Option Value} {news : Led} {K : Frag} {p : Program} {loose : List Str} {mean : ExcName → Option Value} {mg mb : Str → Option Value}
    {R : Result → Shared → Prop} {name qual : Str} {params : Arguments} {body : List Stmt} {scope : Scope} {dV kV doc pm cdv ct oc : Value} {an od : Option Addr} {osl : Array (Option Value)} {f : Addr} {args : Args} {binds : List (Str × Value)}
theorem code_defY (B : Below A₀ base outer h₀) (F : Fr h₀ L s.heap m) (X₀ : K.In h₀) (N : News h₀ L s.heap news) (T : Top p loose mean mg mb h₀) (XB : K.In base) (TB : Top p loose mean mg mb base) (D : KtsDicts (frs outer) h₀)
    (hA : A.frames = some (env :: outer)) (hf : env.frame = some L) (hke : env.scope.kind = .function)
    (ho : K.lookup f = some ⟨oc, od, .func (fnOf name qual params body scope dV kV doc pm an cdv ct), osl⟩) (hcd : codeIn K cdv qual = true) (hroom : A.depth < recursionLimit)
    (hbind : BindsTo s (fnOf name qual params body scope dV kV doc pm an cdv ct) args binds) (hloc : ∀ y ∈ binds, scope.names.lookup y.1 = some .local)
    (h : ∀ g L' h₁, Fr h₀ L g m → Fr g L' h₁ (fun y => binds.reverse.lookup y) → News g L' h₁ news → Below A base (env :: outer) g → K.In g → Top p loose mean mg mb g → KtsDicts (frs (env :: outer)) g → (∀ p ∈ news, p.1 < L') →
      wpAny (model prog w) (A.deeper (envOf qual scope L' f cdv)) (execs body (envOf qual scope L' f cdv))
        (fun fl s' => LeaveY (frs (env :: outer)) A₀ base outer K p loose mean mg mb h₀ L m g R (match fl with | .ret v => v | _ => .none) s')
        (fun e s' => wpAny (model prog w) (A.deeper (envOf qual scope L' f cdv)) (leaving (envOf qual scope L' f cdv) e) (fun _ s'' => R (.error e) s'') (fun e' s'' => R (.error e') s'') s')
        { s with heap := h₁, toks := s.toks + binds.length })
    (hco : scope.isCoroutine = false) (hgen : scope.isGenerator = false) (hk : scope.kind = .function)
    (hcell : ∀ x ∈ scope.names, x.2 ≠ .cell) : codeAny (model prog w) A (.call (.ref f) args) R s := by
  have X := X₀.keeps F.keep
  obtain ⟨FG, BG, st, _⟩ := groundX (R := R) B F N hA hf hke
  refine codeAny_call_def (fd := fnOf name qual params body scope dV kV doc pm an cdv ct) (body := body) (binds := binds) hroom (X _ _ ho) rfl (T.nolimit.keeps F.keep) (codeRec_of X hcd) rfl hbind hcell hloc (fun h₁ hns hk₁ => ?_) hco hgen hk
  refine wpAny_mono (h _ s.heap.objs.size h₁ FG ⟨hns, fun b o e => hk₁ b o (of_hideAll _ e), Nat.le_of_eq (hideAll_size _ _)⟩
    (fun p hp => ⟨hk₁ _ _ (N p hp).1, Nat.ne_of_lt (Heap.lt_size (N p hp).1), hideAll_none _ (List.mem_map_of_mem hp)⟩) BG (X₀.keeps st) (T.keeps st) (fun b hb => ?_) fun p hp => Heap.lt_size (N p hp).1) (fun fl s' hl => ?_) fun _ _ y => y
  · rcases frs_cons hf hb with rfl | hb
    · obtain ⟨oL, es, ep, hL, hLd, _⟩ := FG.ns
      exact ⟨oL, es, ep, hL, hLd⟩
    · obtain ⟨o, es, n, ho', hd⟩ := D b hb
      exact ⟨o, es, n, st b o ho', hd⟩
  · obtain ⟨g', L', m', news', T', F', N', k⟩ := hl
    obtain ⟨h₂, T₂, F₂, N₂, B₂, D₂⟩ := turn_back B F N D hA hf hke T' F' N'
    exact k h₂ T₂ F₂ N₂ B₂ (XB.keeps B₂.stays) (TB.keeps B₂.stays) D₂
end
noncomputable def ConS (w : World) (f : Value) (args : List Value) (D : Nat) (N₀ : Led) (Post : Value → Led → Prop) : Prop :=
  ∀ (dp un : Nat) (gd : Option (List Code)) (cn : Str) (cs : Scope) (a : Addr) (ccd : Value) (cl : List (Str × Addr)) (outer : List Env) (A₀ : Around) (base h₀ : Heap) (L : Addr) (m : Str → Option Value) (s : Shared) (Q E : Value → Shared → Prop)
   (p : Program) (loose : List Str) (mean : ExcName → Option Value) (mg mb : Str → Option Value),
    Below A₀ base outer h₀ → Fr h₀ L s.heap m → (Mine.hk.heap_1 w.params).In h₀ → News h₀ L s.heap N₀ → Top p loose mean mg mb h₀ → cs.kind = .function →
    dp + D < recursionLimit → un + 8 * D < cLine →
    (Mine.hk.heap_1 w.params).In base → Top p loose mean mg mb base → KtsDicts (frs outer) h₀ →
    (∀ r N₁ h₁ h' tk', Post r N₁ → KtsTurn (frs outer) h₀ h₁ → Fr h₁ L h' m → News h₁ L h' N₁ → Below A₀ base outer h₁ → (Mine.hk.heap_1 w.params).In h₁ → Top p loose mean mg mb h₁ → KtsDicts (frs outer) h₁ → Q r { s with heap := h', toks := tk' }) →
      wpAny (model PySem.Challenge.rw_nu0131_01.row.prog w) (ktrTop dp un gd cn cs L a ccd cl outer) (call f args) Q E s
/-- Bod for a def whose callees catch -/
noncomputable def BodS (w : World) (qual : Str) (scope : Scope) (f : Addr) (cdv : Value) (body : List Stmt) (binds : List (Str × Value)) (D : Nat) (N₀ : Led) (Post : Value → Led → Prop) (F : Fra) : Prop :=
  (Mine.hk.heap_1 w.params).In F.base → Top F.p F.loose F.mean F.mg F.mb F.base → Below ⟨none, F.dp, some F.outer, F.gd, F.un⟩ F.base F.outer F.g → Fr F.g F.L F.s.heap (fun y => binds.reverse.lookup y) → (Mine.hk.heap_1 w.params).In F.g → News F.g F.L F.s.heap N₀ → Top F.p F.loose F.mean F.mg F.mb F.g →
    F.dp + D < recursionLimit → F.un + 8 * D < cLine →
    KtsDicts (frs F.outer) F.g → (∀ p ∈ N₀, p.1 < F.L) →
    PassesOwn (model PySem.Challenge.rw_nu0131_01.row.prog w) (Around.deeper ⟨none, F.dp, some F.outer, F.gd, F.un⟩ (envOf qual scope F.L f cdv)) (envOf qual scope F.L f cdv) F.E →
    (∀ e : Addr, PassesOwnAt (model PySem.Challenge.rw_nu0131_01.row.prog w) (Around.mark (Around.deeper ⟨none, F.dp, some F.outer, F.gd, F.un⟩ (envOf qual scope F.L f cdv)) (some (.ref e))) (Around.deeper ⟨none, F.dp, some F.outer, F.gd, F.un⟩ (envOf qual scope F.L f cdv)) (envOf qual scope F.L f cdv) F.E) →
    (∀ s', F.R (.ret .none) s' → F.R .next s') →
    (∀ {m'} r N₁ g' h' tk', Post r N₁ → KtsTurn (frs F.outer) F.g g' → Fr g' F.L h' m' → News g' F.L h' N₁ → F.R (.ret r) { F.s with heap := h', toks := tk' }) →
      wpAny (model PySem.Challenge.rw_nu0131_01.row.prog w) (Around.deeper ⟨none, F.dp, some F.outer, F.gd, F.un⟩ (envOf qual scope F.L f cdv)) (execs body (envOf qual scope F.L f cdv)) F.R F.E F.s
theorem BodS.con {w : World} {args : List Value} {D : Nat} {N₀ : Led} {Post : Value → Led → Prop}
    {name qual : Str} {params : Arguments} {body : List Stmt} {scope : Scope} {dV kV doc pm cdv ct oc : Value} {an od : Option Addr} {osl : Array (Option Value)} {f : Addr} {binds : List (Str × Value)}
    (ho : (Mine.hk.heap_1 w.params).lookup f = some ⟨oc, od, .func (fnOf name qual params body scope dV kV doc pm an cdv ct), osl⟩) (hcd : codeIn (Mine.hk.heap_1 w.params) cdv qual = true)
    (hbind : ∀ s, (Mine.hk.heap_1 w.params).In s.heap → BindsTo s (fnOf name qual params body scope dV kV doc pm an cdv ct) ⟨args, []⟩ binds) (hloc : ∀ y ∈ binds, scope.names.lookup y.1 = some .local)
    (hco : scope.isCoroutine = false) (hgen : scope.isGenerator = false) (hk : scope.kind = .function) (hcell : ∀ x ∈ scope.names, x.2 ≠ .cell)
    (hD : 1 ≤ D) (h : ∀ F, BodS w qual scope f cdv body binds D N₀ Post F) : ConS w (.ref f) args D N₀ Post := by
  intro dp un gd cn cs a ccd cl outer A₀ base h₀ L m s Q E p loose mean mg mb B F X N T hk' hd hu XB TB DD hret
  refine wpAny_call ?_
  refine code_defY B F X N T XB TB DD (A := ktrTop dp un gd cn cs L a ccd cl outer) (outer := outer) rfl rfl hk' ho hcd (show dp < recursionLimit by lia) (hbind s (X.keeps F.keep)) hloc ?_ hco hgen hk hcell
  intro g' L' h' FG' F' N' B' X' T' D' lN'
  refine h ⟨dp, un, gd, _, A₀, base, g', L', _, _, _, p, loose, mean, mg, mb, listOf #[] 0⟩ XB TB B' F' X' N' T' hd hu D' lN' (by passes_own) (fun _ => by passes_own) (fun _ x => x) ?_
  intro m' r N₁ g₂ h₂ tk' hP hT hF hN
  refine ⟨g₂, L', m', N₁, hT, hF, hN, ?_⟩
  intro h3 T3 F3 N3 B3 X3 P3 D3
  exact hret _ _ _ _ _ hP T3 F3 N3 B3 X3 P3 D3
noncomputable def BodKS (w : World) (f : Addr) (args : List Value) (D : Nat) (N₀ : Led) (Post : Value → Led → Prop) (F : Fra) : Prop :=
  BodS w (fdOf (Mine.hk.heap_1 w.params) f).qualname (fdOf (Mine.hk.heap_1 w.params) f).scope f (fdOf (Mine.hk.heap_1 w.params) f).code (stOf (fdOf (Mine.hk.heap_1 w.params) f)) (bnOf (fdOf (Mine.hk.heap_1 w.params) f) args) D N₀ Post F
theorem BodKS.enter {w : World} {args : List Value} {D : Nat} {N₀ : Led} {Post : Value → Led → Prop} {F : Fra}
    {name qual : Str} {params : Arguments} {body : List Stmt} {scope : Scope} {dV kV doc pm cdv ct oc : Value} {an od : Option Addr} {osl : Array (Option Value)} {f : Addr} {binds : List (Str × Value)}
    (ho : (Mine.hk.heap_1 w.params).lookup f = some ⟨oc, od, .func (fnOf name qual params body scope dV kV doc pm an cdv ct), osl⟩) (hb : (params.args.map (·.arg)).zip args = binds)
    (h : BodS w qual scope f cdv body binds D N₀ Post F) : BodKS w f args D N₀ Post F := by
  unfold BodKS; rw [fdOf_is ho]; subst hb; exact h
theorem BodKS.con {w : World} {args : List Value} {D : Nat} {N₀ : Led} {Post : Value → Led → Prop}
    {name qual : Str} {params : Arguments} {body : List Stmt} {scope : Scope} {dV kV doc pm cdv ct oc : Value} {an od : Option Addr} {osl : Array (Option Value)} {f : Addr} {binds : List (Str × Value)}
    (ho : (Mine.hk.heap_1 w.params).lookup f = some ⟨oc, od, .func (fnOf name qual params body scope dV kV doc pm an cdv ct), osl⟩) (hcd : codeIn (Mine.hk.heap_1 w.params) cdv qual = true)
    (hb : (params.args.map (·.arg)).zip args = binds) (hq : ∀ s, (Mine.hk.heap_1 w.params).In s.heap → BindsTo s (fnOf name qual params body scope dV kV doc pm an cdv ct) ⟨args, []⟩ binds) (hloc : ∀ y ∈ binds, scope.names.lookup y.1 = some .local)
    (hco : scope.isCoroutine = false) (hgen : scope.isGenerator = false) (hk : scope.kind = .function) (hcell : ∀ x ∈ scope.names, x.2 ≠ .cell)
    (hD : 1 ≤ D) (h : ∀ F, BodKS w f args D N₀ Post F) : ConS w (.ref f) args D N₀ Post := by
  refine BodS.con ho hcd hq hloc hco hgen hk hcell hD fun F => ?_
  have h' := h F
  unfold BodKS at h'; rw [fdOf_is ho] at h'; subst hb; exact h'
theorem ConS.use {w : World} {f : Value} {args : List Value} {D : Nat} {N₀ : Led} {Post : Value → Led → Prop} (C : ConS w f args D N₀ Post)
  {dp un : Nat} {gd : Option (List Code)} {cn : Str} {cs : Scope} {a : Addr} {ccd : Value} {cl : List (Str × Addr)} {outer : List Env} {A₀ : Around} {base g₀ h₀ : Heap} {L : Addr} {m : Str → Option Value} {s : Shared} {Q E : Value → Shared → Prop}
  {p : Program} {loose : List Str} {mean : ExcName → Option Value} {mg mb : Str → Option Value}
    (B : Below A₀ base outer h₀) (F : Fr h₀ L s.heap m) (X : (Mine.hk.heap_1 w.params).In h₀) (N : News h₀ L s.heap N₀) (T : Top p loose mean mg mb h₀) (hk : cs.kind = .function)
    (hd : dp + D < recursionLimit) (hu : un + 8 * D < cLine) (XB : (Mine.hk.heap_1 w.params).In base) (TB : Top p loose mean mg mb base) (DD : KtsDicts (frs outer) h₀) (T0 : KtsTurn (frs outer) g₀ h₀)
    (ret : ∀ r N₁ h₁ h' tk', Post r N₁ → KtsTurn (frs outer) g₀ h₁ → Fr h₁ L h' m → News h₁ L h' N₁ → Below A₀ base outer h₁ → (Mine.hk.heap_1 w.params).In h₁ → Top p loose mean mg mb h₁ → KtsDicts (frs outer) h₁ → Q r { s with heap := h', toks := tk' }) :
      wpAny (model PySem.Challenge.rw_nu0131_01.row.prog w) (ktrTop dp un gd cn cs L a ccd cl outer) (call f args) Q E s :=
  C dp un gd cn cs a ccd cl outer A₀ base h₀ L m s Q E p loose mean mg mb B F X N T hk hd hu XB TB DD fun r N₁ h₁ h' tk' hP T1 F1 N1 B1 X1 P1 D1 => ret r N₁ h₁ h' tk' hP (T0.trans T1) F1 N1 B1 X1 P1 D1
noncomputable def KonS (w : World) (f : Value) (args : List Value) (D : Nat) (N₀ : Led) (G : (Value → Led → Prop) → Prop) : Prop :=
  (∀ K K' : Value → Led → Prop, (∀ r N, K r N → K' r N) → G K → G K') ∧ ∀ (dp un : Nat) (gd : Option (List Code)) (cn : Str) (cs : Scope) (a : Addr) (ccd : Value) (cl : List (Str × Addr)) (outer : List Env) (A₀ : Around) (base h₀ : Heap) (L : Addr) (m : Str → Option Value) (s : Shared) (Q E : Value → Shared → Prop)
   (p : Program) (loose : List Str) (mean : ExcName → Option Value) (mg mb : Str → Option Value),
    Below A₀ base outer h₀ → Fr h₀ L s.heap m → (Mine.hk.heap_1 w.params).In h₀ → News h₀ L s.heap N₀ → Top p loose mean mg mb h₀ → cs.kind = .function →
    dp + D < recursionLimit → un + 8 * D < cLine →
    (Mine.hk.heap_1 w.params).In base → Top p loose mean mg mb base → KtsDicts (frs outer) h₀ →
    (∀ h₁ h' tk', KtsTurn (frs outer) h₀ h₁ → Fr h₁ L h' m → Below A₀ base outer h₁ → (Mine.hk.heap_1 w.params).In h₁ → Top p loose mean mg mb h₁ → KtsDicts (frs outer) h₁ → G fun r N₁ => News h₁ L h' N₁ → Q r { s with heap := h', toks := tk' }) →
      wpAny (model PySem.Challenge.rw_nu0131_01.row.prog w) (ktrTop dp un gd cn cs L a ccd cl outer) (call f args) Q E s
theorem ConS.kon {w : World} {f : Value} {args : List Value} {D : Nat} {N₀ : Led} {Post : Value → Led → Prop} {G : (Value → Led → Prop) → Prop} (C : ConS w f args D N₀ Post) (h : ∀ K, G K → ∀ r N, Post r N → K r N) (mono : ∀ K K' : Value → Led → Prop, (∀ r N, K r N → K' r N) → G K → G K') : KonS w f args D N₀ G :=
  ⟨mono, fun dp un gd cn cs a ccd cl outer A₀ base h₀ L m s Q E p loose mean mg mb B F X N T hk hd hu XB TB DD g => C dp un gd cn cs a ccd cl outer A₀ base h₀ L m s Q E p loose mean mg mb B F X N T hk hd hu XB TB DD fun r N₁ h₁ h' tk' hP T1 F1 N1 B1 X1 P1 D1 => h _ (g h₁ h' tk' T1 F1 B1 X1 P1 D1) r N₁ hP N1⟩
theorem KonS.go {w : World} {f : Value} {args : List Value} {D : Nat} {N₀ : Led} {G : (Value → Led → Prop) → Prop}
  {dp un : Nat} {gd : Option (List Code)} {cn : Str} {cs : Scope} {a : Addr} {ccd : Value} {cl : List (Str × Addr)} {outer : List Env} {A₀ : Around} {base h₀ : Heap} {L : Addr} {m : Str → Option Value} {s : Shared} {Q E : Value → Shared → Prop}
  {p : Program} {loose : List Str} {mean : ExcName → Option Value} {mg mb : Str → Option Value} {g₀ : Heap}
    (B : Below A₀ base outer h₀) (F : Fr h₀ L s.heap m) (X : (Mine.hk.heap_1 w.params).In h₀) (N : News h₀ L s.heap N₀) (T : Top p loose mean mg mb h₀) (hk : cs.kind = .function)
    (hd : dp + D < recursionLimit) (hu : un + 8 * D < cLine)
    (XB : (Mine.hk.heap_1 w.params).In base) (TB : Top p loose mean mg mb base) (DD : KtsDicts (frs outer) h₀) (T0 : KtsTurn (frs outer) g₀ h₀) (C : KonS w f args D N₀ G)
    (g : ∀ h₁ h' tk', KtsTurn (frs outer) g₀ h₁ → Fr h₁ L h' m → Below A₀ base outer h₁ → (Mine.hk.heap_1 w.params).In h₁ → Top p loose mean mg mb h₁ → KtsDicts (frs outer) h₁ → G fun r N₁ => News h₁ L h' N₁ → Q r { s with heap := h', toks := tk' }) :
      wpAny (model PySem.Challenge.rw_nu0131_01.row.prog w) (ktrTop dp un gd cn cs L a ccd cl outer) (call f args) Q E s := C.2 dp un gd cn cs a ccd cl outer A₀ base h₀ L m s Q E p loose mean mg mb B F X N T hk hd hu XB TB DD fun h₁ h' tk' T1 => g h₁ h' tk' (T0.trans T1)
/-- the ground of the outermost frame does not change at all -/
theorem ConS.top {w : World} {f : Value} {args : List Value} {D : Nat} {N₀ : Led} {Post : Value → Led → Prop} (C : ConS w f args D N₀ Post)
  {dp un : Nat} {gd : Option (List Code)} {cn : Str} {cs : Scope} {a : Addr} {ccd : Value} {cl : List (Str × Addr)} {A₀ : Around} {base h₀ : Heap} {L : Addr} {m : Str → Option Value} {s : Shared} {Q E : Value → Shared → Prop}
  {p : Program} {loose : List Str} {mean : ExcName → Option Value} {mg mb : Str → Option Value}
    (B : Below A₀ base [] h₀) (F : Fr h₀ L s.heap m) (X : (Mine.hk.heap_1 w.params).In h₀) (N : News h₀ L s.heap N₀) (T : Top p loose mean mg mb h₀) (hk : cs.kind = .function)
    (hd : dp + D < recursionLimit) (hu : un + 8 * D < cLine) (XB : (Mine.hk.heap_1 w.params).In base) (TB : Top p loose mean mg mb base)
    (ret : ∀ r N₁ h' tk', Post r N₁ → Fr h₀ L h' m → News h₀ L h' N₁ → Q r { s with heap := h', toks := tk' }) :
      wpAny (model PySem.Challenge.rw_nu0131_01.row.prog w) (ktrTop dp un gd cn cs L a ccd cl []) (call f args) Q E s :=
  C dp un gd cn cs a ccd cl [] A₀ base h₀ L m s Q E p loose mean mg mb B F X N T hk hd hu XB TB ktsDicts_nil fun r N₁ h₁ h' tk' hP T1 F1 N1 _ _ _ _ =>
    ret r N₁ h' tk' hP ⟨F1.ns, fun b o e => F1.keep b o (T1.other b o e (by simp [frs])), by rw [← T1.size]; exact F1.above⟩ fun q hq => ⟨(N1 q hq).1, (N1 q hq).2.1, by
      cases e : h₀.get? q.1 with
      | none => rfl
      | some o =>
        have z := (N1 q hq).2.2
        rw [T1.other _ o e (by simp [frs])] at z; cases z⟩
theorem ground_back {h₀ h₁ h' : Heap} {L : Addr} {m : Str → Option Value} (T1 : KtsTurn (frs []) h₀ h₁) (F1 : Fr h₁ L h' m) : Fr h₀ L h' m := ⟨F1.ns, fun b o e => F1.keep b o (T1.other b o e (by simp [frs])), by rw [← T1.size]; exact F1.above⟩
theorem news_back {h₀ h₁ h' : Heap} {L : Addr} {N : Led} (T1 : KtsTurn (frs []) h₀ h₁) (N1 : News h₁ L h' N) : News h₀ L h' N := fun q hq => ⟨(N1 q hq).1, (N1 q hq).2.1, by
      cases e : h₀.get? q.1 with
      | none => rfl
      | some o =>
        have z := (N1 q hq).2.2
        rw [T1.other _ o e (by simp [frs])] at z; cases z⟩
theorem KonS.top {w : World} {f : Value} {args : List Value} {D : Nat} {N₀ : Led} {G : (Value → Led → Prop) → Prop}
  {dp un : Nat} {gd : Option (List Code)} {cn : Str} {cs : Scope} {a : Addr} {ccd : Value} {cl : List (Str × Addr)} {A₀ : Around} {base h₀ : Heap} {L : Addr} {m : Str → Option Value} {s : Shared} {Q E : Value → Shared → Prop}
  {p : Program} {loose : List Str} {mean : ExcName → Option Value} {mg mb : Str → Option Value}
    (B : Below A₀ base [] h₀) (F : Fr h₀ L s.heap m) (X : (Mine.hk.heap_1 w.params).In h₀) (N : News h₀ L s.heap N₀) (T : Top p loose mean mg mb h₀) (hk : cs.kind = .function)
    (hd : dp + D < recursionLimit) (hu : un + 8 * D < cLine)
    (XB : (Mine.hk.heap_1 w.params).In base) (TB : Top p loose mean mg mb base) (C : KonS w f args D N₀ G)
    (g : ∀ h' tk', Fr h₀ L h' m → G fun r N₁ => News h₀ L h' N₁ → Q r { s with heap := h', toks := tk' }) :
      wpAny (model PySem.Challenge.rw_nu0131_01.row.prog w) (ktrTop dp un gd cn cs L a ccd cl []) (call f args) Q E s := C.2 dp un gd cn cs a ccd cl [] A₀ base h₀ L m s Q E p loose mean mg mb B F X N T hk hd hu XB TB ktsDicts_nil fun h₁ h' tk' T1 F1 _ _ _ _ => C.1 _ _ (fun _ _ k N1 => k (news_back T1 N1)) (g h' tk' (ground_back T1 F1))
theorem KonST.go {w : World} {f : Value} {src : Addr} {o : Obj} {rest : Led} {args : List Value} {D : Nat} {G : (Value → Led → Prop) → Prop}
  {dp un : Nat} {gd : Option (List Code)} {cn : Str} {cs : Scope} {a : Addr} {ccd : Value} {cl : List (Str × Addr)} {outer : List Env} {A₀ : Around} {base h₀ : Heap} {L : Addr} {m : Str → Option Value} {s : Shared} {Q E : Value → Shared → Prop}
  {p : Program} {loose : List Str} {mean : ExcName → Option Value} {mg mb : Str → Option Value} {g₀ : Heap}
    (B : Below A₀ base outer h₀) (F : Fr h₀ L s.heap m) (X : (Mine.hk.heap_1 w.params).In h₀) (N : News h₀ L s.heap ((src, o) :: rest)) (T : Top p loose mean mg mb h₀) (hk : cs.kind = .function)
    (hd : dp + D < recursionLimit) (hu : un + 8 * D < cLine)
    (XB : (Mine.hk.heap_1 w.params).In base) (TB : Top p loose mean mg mb base) (DD : KtsDicts (frs outer) h₀) (T0 : KtsTurn (frs outer) g₀ h₀) (C : KonS w f (.ref src :: args) D ((src, o) :: rest) G)
    (g : ∀ h₁ h' tk', KtsTurn (frs outer) g₀ h₁ → Fr h₁ L h' m → Below A₀ base outer h₁ → (Mine.hk.heap_1 w.params).In h₁ → Top p loose mean mg mb h₁ → KtsDicts (frs outer) h₁ → G fun r N₁ => News h₁ L h' N₁ → Q r { s with heap := h', toks := tk' }) :
      wpAny (model PySem.Challenge.rw_nu0131_01.row.prog w) (ktrTop dp un gd cn cs L a ccd cl outer) (call f (.ref src :: args)) Q E s := C.2 dp un gd cn cs a ccd cl outer A₀ base h₀ L m s Q E p loose mean mg mb B F X N T hk hd hu XB TB DD fun h₁ h' tk' T1 => g h₁ h' tk' (T0.trans T1)
theorem KonST.top {w : World} {f : Value} {src : Addr} {o : Obj} {rest : Led} {args : List Value} {D : Nat} {G : (Value → Led → Prop) → Prop}
  {dp un : Nat} {gd : Option (List Code)} {cn : Str} {cs : Scope} {a : Addr} {ccd : Value} {cl : List (Str × Addr)} {A₀ : Around} {base h₀ : Heap} {L : Addr} {m : Str → Option Value} {s : Shared} {Q E : Value → Shared → Prop}
  {p : Program} {loose : List Str} {mean : ExcName → Option Value} {mg mb : Str → Option Value}
    (B : Below A₀ base [] h₀) (F : Fr h₀ L s.heap m) (X : (Mine.hk.heap_1 w.params).In h₀) (N : News h₀ L s.heap ((src, o) :: rest)) (T : Top p loose mean mg mb h₀) (hk : cs.kind = .function)
    (hd : dp + D < recursionLimit) (hu : un + 8 * D < cLine)
    (XB : (Mine.hk.heap_1 w.params).In base) (TB : Top p loose mean mg mb base) (C : KonS w f (.ref src :: args) D ((src, o) :: rest) G)
    (g : ∀ h' tk', Fr h₀ L h' m → G fun r N₁ => News h₀ L h' N₁ → Q r { s with heap := h', toks := tk' }) :
      wpAny (model PySem.Challenge.rw_nu0131_01.row.prog w) (ktrTop dp un gd cn cs L a ccd cl []) (call f (.ref src :: args)) Q E s := C.2 dp un gd cn cs a ccd cl [] A₀ base h₀ L m s Q E p loose mean mg mb B F X N T hk hd hu XB TB ktsDicts_nil fun h₁ h' tk' T1 F1 _ _ _ _ => C.1 _ _ (fun _ _ k N1 => k (news_back T1 N1)) (g h' tk' (ground_back T1 F1))
theorem reg_p19_0 : True := by
  k_with "handleBy ref" => (k_here; k_dflt (refine' hit_SN0 ?R ?F ?K ?U ?XB ?TB ?D ?T0 ?T ?_ (hE := (by assumption : ∀ e : Addr, PassesOwnAt _ (Around.mark _ (some (.ref e))) _ _ _) _); (case R => assumption); (case F => assumption); (case K => assumption); (case U => assumption); (case XB => assumption); (case TB => assumption); (case D => assumption); (case T0 => first | assumption | exact KtsTurn.refl); (case T => kts_test); k_whole); intro _ _ _ _ _ K' _ _ _; (try k_lift K'); (try k_sweep))
  k_with "LeaveY" => (k_dflt (refine' leaveY_ ?F ?N ?T ?_; (case F => k_asm); (case N => k_asm); (case T => first | assumption | exact KtsTurn.refl); k_whole); intro _ _ _ _ _ _ _ _; (try dsimp only))
  trivial

/-! the law's defs that catch -/
noncomputable def law_fell_c_S (z : Fra × World × Array UInt8 × TC × List Int × Led) : Prop :=
  (fun (F9 : Fra) (w : World) (b : Array UInt8) (tb : TC) (ks : List Int) (news : Led) => ∀ (hb : BI b = ks), ∀ (hl : ks.length ≤ 100000), ∀ (hbad : ¬ ipGood ks), BodKS w 419 [.bytes b tb] 10 news (fun r N => N = news ∧ r = .bool true) F9) (z.1) (z.2.1) (z.2.2.1) (z.2.2.2.1) (z.2.2.2.2.1) (z.2.2.2.2.2)
@[irreducible] noncomputable def law_fell_c_z : Fra × World × Array UInt8 × TC × List Int × Led := wit (fra0, wrl0, #[], 0, [], []) law_fell_c_S
namespace law_fell_c_
@[irreducible] noncomputable def F9 : Fra := law_fell_c_z.1
@[irreducible] noncomputable def w : World := law_fell_c_z.2.1
@[irreducible] noncomputable def b : Array UInt8 := law_fell_c_z.2.2.1
@[irreducible] noncomputable def tb : TC := law_fell_c_z.2.2.2.1
@[irreducible] noncomputable def ks : List Int := law_fell_c_z.2.2.2.2.1
@[irreducible] noncomputable def news : Led := law_fell_c_z.2.2.2.2.2
theorem run : ∀ (hb : BI b = ks), ∀ (hl : ks.length ≤ 100000), ∀ (hbad : ¬ ipGood ks), BodKS w 419 [.bytes b tb] 10 news (fun r N => N = news ∧ r = .bool true) F9 := by
  intro hb hl hbad
  refine' BodKS.enter ?ho ?hb ?_; (case ho => k_is); (case hb => first | (dsimp only [List.map, List.zip, List.zipWith]; done) | (dsimp only [List.map, List.zip, List.zipWith]; exact rfl))
  intro XB TB B' F' X' N' T' hd hu D' lN' hPE hPA hnx hret
  k_steps
  · ((try with_reducible refine hnx _ ?_); exact hret _ _ _ _ _ (⟨rfl, rfl⟩) (by first | assumption | exact KtsTurn.refl) (by k_asm) (by first | k_asm | exact news_subL (by assumption) (by k_extra "sub") | exact news_sub (by assumption) (by intro p hp; (try simp only [List.mem_cons, List.mem_append] at hp ⊢); grind)))
  · exact absurd (by assumption) hbad
end law_fell_c_
theorem law_fell_c (w : World) (b : Array UInt8) (tb : TC) (ks : List Int) (news : Led) (hb : BI b = ks) (hl : ks.length ≤ 100000) (hbad : ¬ ipGood ks)  : ConS w (.ref 419) [.bytes b tb] 10 news (fun r N => N = news ∧ r = .bool true) := by
  refine' BodKS.con ?ho ?hcd ?hb ?hq ?hloc ?hco ?hgen ?hk ?hcell ?hD (fun F9 => @wit_all _ (fra0, wrl0, #[], 0, [], []) law_fell_c_S (by with_unfolding_all exact law_fell_c_.run) (F9, w, b, tb, ks, news) hb hl hbad); (case ho => k_is); (case hcd => k_is); (case hb => first | (dsimp only [List.map, List.zip, List.zipWith]; done) | (dsimp only [List.map, List.zip, List.zipWith]; exact rfl)); (case hq => first | exact fun _ _ => BindsTo.of_eq rfl | (intro s7 X7; exact binds_K X7 rfl (by k_is) rfl rfl rfl)); (case hloc => exact locs rfl); (case hco => exact rfl); (case hgen => exact rfl); (case hk => exact rfl); (case hcell => decide); (case hD => decide)

noncomputable def law_options_fell_c_S (z : Fra × World × Array UInt8 × TC × List Int × Led) : Prop :=
  (fun (F9 : Fra) (w : World) (b : Array UInt8) (tb : TC) (ks : List Int) (news : Led) => ∀ (hb : BI b = ks), ∀ (hl : ks.length ≤ 100000), BodKS w 440 [.bytes b tb] 10 news (fun r N => N = news ∧ r = .bool (rdAll ks).isNone) F9) (z.1) (z.2.1) (z.2.2.1) (z.2.2.2.1) (z.2.2.2.2.1) (z.2.2.2.2.2)
@[irreducible] noncomputable def law_options_fell_c_z : Fra × World × Array UInt8 × TC × List Int × Led := wit (fra0, wrl0, #[], 0, [], []) law_options_fell_c_S
namespace law_options_fell_c_
@[irreducible] noncomputable def F9 : Fra := law_options_fell_c_z.1
@[irreducible] noncomputable def w : World := law_options_fell_c_z.2.1
@[irreducible] noncomputable def b : Array UInt8 := law_options_fell_c_z.2.2.1
@[irreducible] noncomputable def tb : TC := law_options_fell_c_z.2.2.2.1
@[irreducible] noncomputable def ks : List Int := law_options_fell_c_z.2.2.2.2.1
@[irreducible] noncomputable def news : Led := law_options_fell_c_z.2.2.2.2.2
theorem run : ∀ (hb : BI b = ks), ∀ (hl : ks.length ≤ 100000), BodKS w 440 [.bytes b tb] 10 news (fun r N => N = news ∧ r = .bool (rdAll ks).isNone) F9 := by
  intro hb hl
  refine' BodKS.enter ?ho ?hb ?_; (case ho => k_is); (case hb => first | (dsimp only [List.map, List.zip, List.zipWith]; done) | (dsimp only [List.map, List.zip, List.zipWith]; exact rfl))
  intro XB TB B' F' X' N' T' hd hu D' lN' hPE hPA hnx hret
  k_steps
  · rename (rdAll ks = none) => hz
    rw [hz] at hret
    ((try with_reducible refine hnx _ ?_); exact hret _ _ _ _ _ (⟨rfl, rfl⟩) (by first | assumption | exact KtsTurn.refl) (by k_asm) (by first | k_asm | exact news_subL (by assumption) (by k_extra "sub") | exact news_sub (by assumption) (by intro p hp; (try simp only [List.mem_cons, List.mem_append] at hp ⊢); grind)))
  · rename (rdAll ks = some _) => hz
    rw [hz] at hret
    ((try with_reducible refine hnx _ ?_); exact hret _ _ _ _ _ (⟨rfl, rfl⟩) (by first | assumption | exact KtsTurn.refl) (by k_asm) (by first | k_asm | exact news_subL (by assumption) (by k_extra "sub") | exact news_sub (by assumption) (by intro p hp; (try simp only [List.mem_cons, List.mem_append] at hp ⊢); grind)))
end law_options_fell_c_
theorem law_options_fell_c (w : World) (b : Array UInt8) (tb : TC) (ks : List Int) (news : Led) (hb : BI b = ks) (hl : ks.length ≤ 100000)  : ConS w (.ref 440) [.bytes b tb] 10 news (fun r N => N = news ∧ r = .bool (rdAll ks).isNone) := by
  refine' BodKS.con ?ho ?hcd ?hb ?hq ?hloc ?hco ?hgen ?hk ?hcell ?hD (fun F9 => @wit_all _ (fra0, wrl0, #[], 0, [], []) law_options_fell_c_S (by with_unfolding_all exact law_options_fell_c_.run) (F9, w, b, tb, ks, news) hb hl); (case ho => k_is); (case hcd => k_is); (case hb => first | (dsimp only [List.map, List.zip, List.zipWith]; done) | (dsimp only [List.map, List.zip, List.zipWith]; exact rfl)); (case hq => first | exact fun _ _ => BindsTo.of_eq rfl | (intro s7 X7; exact binds_K X7 rfl (by k_is) rfl rfl rfl)); (case hloc => exact locs rfl); (case hco => exact rfl); (case hgen => exact rfl); (case hk => exact rfl); (case hcell => decide); (case hD => decide)

/-! options that no head can hold -/
noncomputable def check_size_bad_S (z : Fra × World × Addr × Addr × (Nat → TC) × (Nat → TC) × Array UInt8 × Hdr × Array UInt8 × TC × List Int × Led) : Prop :=
  (fun (F9 : Fra) (w : World) (x : Addr) (dx : Addr) (c : Nat → TC) (u : Nat → TC) (b : Array UInt8) (h : Hdr) (p : Array UInt8) (tp : TC) (ks : List Int) (news : Led) => ∀ (hx : (x, instObj 183 dx) ∈ news), ∀ (hd : (dx, dictOf (hdrV w c u b h) 10) ∈ news), ∀ (hb : BI b = h.options), ∀ (hp : BI p = ks), ∀ (n0 : h.options.length % 4 ≠ 0 ∨ 40 < h.options.length), ∀ (n1 : h.options.length ≤ 100), BodKR w 208 [.ref x, .bytes p tp] 6 news (fun r N => False) 63 True F9) (z.1) (z.2.1) (z.2.2.1) (z.2.2.2.1) (z.2.2.2.2.1) (z.2.2.2.2.2.1) (z.2.2.2.2.2.2.1) (z.2.2.2.2.2.2.2.1) (z.2.2.2.2.2.2.2.2.1) (z.2.2.2.2.2.2.2.2.2.1) (z.2.2.2.2.2.2.2.2.2.2.1) (z.2.2.2.2.2.2.2.2.2.2.2)
@[irreducible] noncomputable def check_size_bad_z : Fra × World × Addr × Addr × (Nat → TC) × (Nat → TC) × Array UInt8 × Hdr × Array UInt8 × TC × List Int × Led := wit (fra0, wrl0, 0, 0, fun _ => 0, fun _ => 0, #[], ⟨0, 0, 0, 0, 0, 0, false, false, 0, []⟩, #[], 0, [], []) check_size_bad_S
namespace check_size_bad_
@[irreducible] noncomputable def F9 : Fra := check_size_bad_z.1
@[irreducible] noncomputable def w : World := check_size_bad_z.2.1
@[irreducible] noncomputable def x : Addr := check_size_bad_z.2.2.1
@[irreducible] noncomputable def dx : Addr := check_size_bad_z.2.2.2.1
@[irreducible] noncomputable def c : Nat → TC := check_size_bad_z.2.2.2.2.1
@[irreducible] noncomputable def u : Nat → TC := check_size_bad_z.2.2.2.2.2.1
@[irreducible] noncomputable def b : Array UInt8 := check_size_bad_z.2.2.2.2.2.2.1
@[irreducible] noncomputable def h : Hdr := check_size_bad_z.2.2.2.2.2.2.2.1
@[irreducible] noncomputable def p : Array UInt8 := check_size_bad_z.2.2.2.2.2.2.2.2.1
@[irreducible] noncomputable def tp : TC := check_size_bad_z.2.2.2.2.2.2.2.2.2.1
@[irreducible] noncomputable def ks : List Int := check_size_bad_z.2.2.2.2.2.2.2.2.2.2.1
@[irreducible] noncomputable def news : Led := check_size_bad_z.2.2.2.2.2.2.2.2.2.2.2
theorem run : ∀ (hx : (x, instObj 183 dx) ∈ news), ∀ (hd : (dx, dictOf (hdrV w c u b h) 10) ∈ news), ∀ (hb : BI b = h.options), ∀ (hp : BI p = ks), ∀ (n0 : h.options.length % 4 ≠ 0 ∨ 40 < h.options.length), ∀ (n1 : h.options.length ≤ 100), BodKR w 208 [.ref x, .bytes p tp] 6 news (fun r N => False) 63 True F9 := by
  intro hx hd hb hp n0 n1
  refine' BodKR.enter ?ho ?hb ?_; (case ho => k_is); (case hb => first | (dsimp only [List.map, List.zip, List.zipWith]; done) | (dsimp only [List.map, List.zip, List.zipWith]; exact rfl))
  intro B' F' X' N' T' hd hu hPE hnx hret hexa hexb
  k_steps
  all_goals (first | (refine' hexa _ _ _ _ ?bad ?FG ?N ?X ?ne ?sub; (case N => k_asm); (case X => assumption); (case FG => k_asm); (case ne => assumption); (case sub => (first | exact fun _ hp => hp | exact (show SubL _ _ by k_extra "sub") | (intro p hp; simp only [List.mem_cons, List.mem_append, hp, or_true, true_or]))); (case bad => trivial)) | (refine' hexb _ _ _ _ ?bad ?FG ?R ?U ?sub; (case R => assumption); (case FG => assumption); (case U => assumption); (case sub => (first | exact fun _ hp => hp | exact (show SubL _ _ by k_extra "sub") | (intro p hp; simp only [List.mem_cons, List.mem_append, hp, or_true, true_or]))); (case bad => trivial)))
end check_size_bad_
theorem check_size_bad (w : World) (x dx : Addr) (c u : Nat → TC) (b : Array UInt8) (h : Hdr) (p : Array UInt8) (tp : TC) (ks : List Int) (news : Led) (hx : (x, instObj 183 dx) ∈ news) (hd : (dx, dictOf (hdrV w c u b h) 10) ∈ news) (hb : BI b = h.options) (hp : BI p = ks) (n0 : h.options.length % 4 ≠ 0 ∨ 40 < h.options.length) (n1 : h.options.length ≤ 100)  : ConR w (.ref 208) [.ref x, .bytes p tp] 6 news (fun r N => False) 63 True := by
  refine' BodKR.con ?ho ?hcd ?hb ?hq ?hloc ?hco ?hgen ?hk ?hcell ?hD (fun F9 => @wit_all _ (fra0, wrl0, 0, 0, fun _ => 0, fun _ => 0, #[], ⟨0, 0, 0, 0, 0, 0, false, false, 0, []⟩, #[], 0, [], []) check_size_bad_S (by with_unfolding_all exact check_size_bad_.run) (F9, w, x, dx, c, u, b, h, p, tp, ks, news) hx hd hb hp n0 n1); (case ho => k_is); (case hcd => k_is); (case hb => first | (dsimp only [List.map, List.zip, List.zipWith]; done) | (dsimp only [List.map, List.zip, List.zipWith]; exact rfl)); (case hq => first | exact fun _ _ => BindsTo.of_eq rfl | (intro s7 X7; exact binds_K X7 rfl (by k_is) rfl rfl rfl)); (case hloc => exact locs rfl); (case hco => exact rfl); (case hgen => exact rfl); (case hk => exact rfl); (case hcell => decide); (case hD => decide)

theorem check_fields_d (w : World) (x dx : Addr) (c u : Nat → TC) (b : Array UInt8) (h : Hdr) (news : Led) (hx : (x, instObj 183 dx) ∈ news) (hd : (dx, dictOf (hdrV w c u b h) 10) ∈ news) (H : ({ h with options := [] } : Hdr).Ok) :
   Con w (.ref 201) [.ref x] 3 news (fun r N => N = news ∧ r = .none) := check_fields_c w x dx c u b { h with options := [] } news hx hd H
theorem check_fields_d_k (w : World) (x dx : Addr) (c u : Nat → TC) (b : Array UInt8) (h : Hdr) (news : Led) (hx : (x, instObj 183 dx) ∈ news) (hd : (dx, dictOf (hdrV w c u b h) 10) ∈ news) (H : ({ h with options := [] } : Hdr).Ok)  :
   Kon w (.ref 201) [.ref x] 3 news (fun K9 =>  K9 (.none) (news))  :=
  Con.kon (check_fields_d w x dx c u b h news hx hd H) (by
    rintro K9 g9 r9 N9 ⟨rfl, rfl⟩
    exact g9)
theorem reg_p21_0 : True := by
  k_with "call ref" => (k_here; (with_reducible show wpAny _ _ (call (Value.ref 201) _) _ _ _); k_dflt (refine' Kon.go ?_ ?_ ?_ ?_ ?_ ?_ ?_ ?_ ?_ ?_; walk_at "side 0"; (any_goals ((with_reducible show Kon _ _ _ _ _ _); exact (check_fields_d_k _ _ _ _ _ _ _ _ (by k_mem) (by k_mem) (by assumption)))); walk_at "side 9"); intro _ _ _ _)
  k_with "call ref" => (k_here; (with_reducible show wpAny _ _ (call (Value.ref 208) _) _ _ _); k_dflt (refine' ConR.use (check_size_bad _ _ _ _ _ _ _ _ _ _ _ ?z1 ?z2 ?z3 ?z4 ?z5 ?z6) ?B ?F ?X ?N ?T ?hk ?hd ?hu ?_ ?_; (case B => k_asm); (case F => k_asm); (case X => k_asm); (case N => k_asm); (case T => k_asm); (case hk => first | exact rfl | assumption); (case hd => ktr_room); (case hu => ktr_units); (case z1 => k_mem); (case z2 => k_mem); (case z3 => assumption); (case z4 => assumption); (case z5 => assumption); (case z6 => assumption); intro _ _ _ _ hP' _ _; obtain ⟨⟩ := hP'; (try dsimp only); rotate_left 1; intro _ _ _ _ _ _ _ _; (try dsimp only)))
  trivial
noncomputable def pack_ip_bad_S (z : Fra × World × Addr × Addr × (Nat → TC) × (Nat → TC) × Array UInt8 × Hdr × Array UInt8 × TC × List Int × Led) : Prop :=
  (fun (F9 : Fra) (w : World) (x : Addr) (dx : Addr) (c : Nat → TC) (u : Nat → TC) (b : Array UInt8) (h : Hdr) (p : Array UInt8) (tp : TC) (ks : List Int) (news : Led) => ∀ (hx : (x, instObj 183 dx) ∈ news), ∀ (hd : (dx, dictOf (hdrV w c u b h) 10) ∈ news), ∀ (hb : BI b = h.options), ∀ (hp : BI p = ks), ∀ (H : ({ h with options := [] } : Hdr).Ok), ∀ (n0 : h.options.length % 4 ≠ 0 ∨ 40 < h.options.length), ∀ (n1 : h.options.length ≤ 100), BodKR w 222 [.ref x, .bytes p tp] 8 news (fun r N => False) 63 True F9) (z.1) (z.2.1) (z.2.2.1) (z.2.2.2.1) (z.2.2.2.2.1) (z.2.2.2.2.2.1) (z.2.2.2.2.2.2.1) (z.2.2.2.2.2.2.2.1) (z.2.2.2.2.2.2.2.2.1) (z.2.2.2.2.2.2.2.2.2.1) (z.2.2.2.2.2.2.2.2.2.2.1) (z.2.2.2.2.2.2.2.2.2.2.2)
@[irreducible] noncomputable def pack_ip_bad_z : Fra × World × Addr × Addr × (Nat → TC) × (Nat → TC) × Array UInt8 × Hdr × Array UInt8 × TC × List Int × Led := wit (fra0, wrl0, 0, 0, fun _ => 0, fun _ => 0, #[], ⟨0, 0, 0, 0, 0, 0, false, false, 0, []⟩, #[], 0, [], []) pack_ip_bad_S
namespace pack_ip_bad_
@[irreducible] noncomputable def F9 : Fra := pack_ip_bad_z.1
@[irreducible] noncomputable def w : World := pack_ip_bad_z.2.1
@[irreducible] noncomputable def x : Addr := pack_ip_bad_z.2.2.1
@[irreducible] noncomputable def dx : Addr := pack_ip_bad_z.2.2.2.1
@[irreducible] noncomputable def c : Nat → TC := pack_ip_bad_z.2.2.2.2.1
@[irreducible] noncomputable def u : Nat → TC := pack_ip_bad_z.2.2.2.2.2.1
@[irreducible] noncomputable def b : Array UInt8 := pack_ip_bad_z.2.2.2.2.2.2.1
@[irreducible] noncomputable def h : Hdr := pack_ip_bad_z.2.2.2.2.2.2.2.1
@[irreducible] noncomputable def p : Array UInt8 := pack_ip_bad_z.2.2.2.2.2.2.2.2.1
@[irreducible] noncomputable def tp : TC := pack_ip_bad_z.2.2.2.2.2.2.2.2.2.1
@[irreducible] noncomputable def ks : List Int := pack_ip_bad_z.2.2.2.2.2.2.2.2.2.2.1
@[irreducible] noncomputable def news : Led := pack_ip_bad_z.2.2.2.2.2.2.2.2.2.2.2
theorem run : ∀ (hx : (x, instObj 183 dx) ∈ news), ∀ (hd : (dx, dictOf (hdrV w c u b h) 10) ∈ news), ∀ (hb : BI b = h.options), ∀ (hp : BI p = ks), ∀ (H : ({ h with options := [] } : Hdr).Ok), ∀ (n0 : h.options.length % 4 ≠ 0 ∨ 40 < h.options.length), ∀ (n1 : h.options.length ≤ 100), BodKR w 222 [.ref x, .bytes p tp] 8 news (fun r N => False) 63 True F9 := by
  intro hx hd hb hp H n0 n1
  refine' BodKR.enter ?ho ?hb ?_; (case ho => k_is); (case hb => first | (dsimp only [List.map, List.zip, List.zipWith]; done) | (dsimp only [List.map, List.zip, List.zipWith]; exact rfl))
  intro B' F' X' N' T' hd hu hPE hnx hret hexa hexb
  k_steps
  (first | (refine' hexa _ _ _ _ ?bad ?FG ?N ?X ?ne ?sub; (case N => k_asm); (case X => assumption); (case FG => k_asm); (case ne => assumption); (case sub => (first | exact fun _ hp => hp | exact (show SubL _ _ by k_extra "sub") | (intro p hp; simp only [List.mem_cons, List.mem_append, hp, or_true, true_or]))); (case bad => trivial)) | (refine' hexb _ _ _ _ ?bad ?FG ?R ?U ?sub; (case R => assumption); (case FG => assumption); (case U => assumption); (case sub => (first | exact fun _ hp => hp | exact (show SubL _ _ by k_extra "sub") | (intro p hp; simp only [List.mem_cons, List.mem_append, hp, or_true, true_or]))); (case bad => trivial)))
end pack_ip_bad_
theorem pack_ip_bad (w : World) (x dx : Addr) (c u : Nat → TC) (b : Array UInt8) (h : Hdr) (p : Array UInt8) (tp : TC) (ks : List Int) (news : Led) (hx : (x, instObj 183 dx) ∈ news) (hd : (dx, dictOf (hdrV w c u b h) 10) ∈ news) (hb : BI b = h.options) (hp : BI p = ks) (H : ({ h with options := [] } : Hdr).Ok) (n0 : h.options.length % 4 ≠ 0 ∨ 40 < h.options.length) (n1 : h.options.length ≤ 100)  : ConR w (.ref 222) [.ref x, .bytes p tp] 8 news (fun r N => False) 63 True := by
  refine' BodKR.con ?ho ?hcd ?hb ?hq ?hloc ?hco ?hgen ?hk ?hcell ?hD (fun F9 => @wit_all _ (fra0, wrl0, 0, 0, fun _ => 0, fun _ => 0, #[], ⟨0, 0, 0, 0, 0, 0, false, false, 0, []⟩, #[], 0, [], []) pack_ip_bad_S (by with_unfolding_all exact pack_ip_bad_.run) (F9, w, x, dx, c, u, b, h, p, tp, ks, news) hx hd hb hp H n0 n1); (case ho => k_is); (case hcd => k_is); (case hb => first | (dsimp only [List.map, List.zip, List.zipWith]; done) | (dsimp only [List.map, List.zip, List.zipWith]; exact rfl)); (case hq => first | exact fun _ _ => BindsTo.of_eq rfl | (intro s7 X7; exact binds_K X7 rfl (by k_is) rfl rfl rfl)); (case hloc => exact locs rfl); (case hco => exact rfl); (case hgen => exact rfl); (case hk => exact rfl); (case hcell => decide); (case hD => decide)

theorem reg_p21_1 : True := by
  k_with "call ref" => (k_here; (with_reducible show wpAny _ _ (call (Value.ref 222) _) _ _ _); k_dflt (refine' ConR.use (pack_ip_bad _ _ _ _ _ _ _ _ _ _ _ ?z1 ?z2 ?z3 ?z4 ?z5 ?z6 ?z7) ?B ?F ?X ?N ?T ?hk ?hd ?hu ?_ ?_; (case B => k_asm); (case F => k_asm); (case X => k_asm); (case N => k_asm); (case T => k_asm); (case hk => first | exact rfl | assumption); (case hd => ktr_room); (case hu => ktr_units); (case z1 => k_mem); (case z2 => k_mem); (case z3 => assumption); (case z4 => assumption); (case z5 => assumption); (case z6 => assumption); (case z7 => assumption); intro _ _ _ _ hP' _ _; obtain ⟨⟩ := hP'; (try dsimp only); rotate_left 1; intro _ _ _ _ _ _ _ _; (try dsimp only)))
  trivial
noncomputable def law_size_fell_c_S (z : Fra × World × Addr × Addr × (Nat → TC) × (Nat → TC) × Array UInt8 × Hdr × Array UInt8 × TC × List Int × Led) : Prop :=
  (fun (F9 : Fra) (w : World) (x : Addr) (dx : Addr) (c : Nat → TC) (u : Nat → TC) (b : Array UInt8) (h : Hdr) (p : Array UInt8) (tp : TC) (ks : List Int) (news : Led) => ∀ (hx : (x, instObj 183 dx) ∈ news), ∀ (hd : (dx, dictOf (hdrV w c u b h) 10) ∈ news), ∀ (hb : BI b = h.options), ∀ (hp : BI p = ks), ∀ (H : ({ h with options := [] } : Hdr).Ok), ∀ (n0 : h.options.length % 4 ≠ 0 ∨ 40 < h.options.length), ∀ (n1 : h.options.length ≤ 100), BodKS w 464 [.ref x, .bytes p tp] 10 news (fun r N => N = news ∧ r = .bool true) F9) (z.1) (z.2.1) (z.2.2.1) (z.2.2.2.1) (z.2.2.2.2.1) (z.2.2.2.2.2.1) (z.2.2.2.2.2.2.1) (z.2.2.2.2.2.2.2.1) (z.2.2.2.2.2.2.2.2.1) (z.2.2.2.2.2.2.2.2.2.1) (z.2.2.2.2.2.2.2.2.2.2.1) (z.2.2.2.2.2.2.2.2.2.2.2)
@[irreducible] noncomputable def law_size_fell_c_z : Fra × World × Addr × Addr × (Nat → TC) × (Nat → TC) × Array UInt8 × Hdr × Array UInt8 × TC × List Int × Led := wit (fra0, wrl0, 0, 0, fun _ => 0, fun _ => 0, #[], ⟨0, 0, 0, 0, 0, 0, false, false, 0, []⟩, #[], 0, [], []) law_size_fell_c_S
namespace law_size_fell_c_
@[irreducible] noncomputable def F9 : Fra := law_size_fell_c_z.1
@[irreducible] noncomputable def w : World := law_size_fell_c_z.2.1
@[irreducible] noncomputable def x : Addr := law_size_fell_c_z.2.2.1
@[irreducible] noncomputable def dx : Addr := law_size_fell_c_z.2.2.2.1
@[irreducible] noncomputable def c : Nat → TC := law_size_fell_c_z.2.2.2.2.1
@[irreducible] noncomputable def u : Nat → TC := law_size_fell_c_z.2.2.2.2.2.1
@[irreducible] noncomputable def b : Array UInt8 := law_size_fell_c_z.2.2.2.2.2.2.1
@[irreducible] noncomputable def h : Hdr := law_size_fell_c_z.2.2.2.2.2.2.2.1
@[irreducible] noncomputable def p : Array UInt8 := law_size_fell_c_z.2.2.2.2.2.2.2.2.1
@[irreducible] noncomputable def tp : TC := law_size_fell_c_z.2.2.2.2.2.2.2.2.2.1
@[irreducible] noncomputable def ks : List Int := law_size_fell_c_z.2.2.2.2.2.2.2.2.2.2.1
@[irreducible] noncomputable def news : Led := law_size_fell_c_z.2.2.2.2.2.2.2.2.2.2.2
theorem run : ∀ (hx : (x, instObj 183 dx) ∈ news), ∀ (hd : (dx, dictOf (hdrV w c u b h) 10) ∈ news), ∀ (hb : BI b = h.options), ∀ (hp : BI p = ks), ∀ (H : ({ h with options := [] } : Hdr).Ok), ∀ (n0 : h.options.length % 4 ≠ 0 ∨ 40 < h.options.length), ∀ (n1 : h.options.length ≤ 100), BodKS w 464 [.ref x, .bytes p tp] 10 news (fun r N => N = news ∧ r = .bool true) F9 := by
  intro hx hd hb hp H n0 n1
  refine' BodKS.enter ?ho ?hb ?_; (case ho => k_is); (case hb => first | (dsimp only [List.map, List.zip, List.zipWith]; done) | (dsimp only [List.map, List.zip, List.zipWith]; exact rfl))
  intro XB TB B' F' X' N' T' hd hu D' lN' hPE hPA hnx hret
  k_steps
  ((try with_reducible refine hnx _ ?_); exact hret _ _ _ _ _ (⟨rfl, rfl⟩) (by first | assumption | exact KtsTurn.refl) (by k_asm) (by first | k_asm | exact news_subL (by assumption) (by k_extra "sub") | exact news_sub (by assumption) (by intro p hp; (try simp only [List.mem_cons, List.mem_append] at hp ⊢); grind)))
end law_size_fell_c_
theorem law_size_fell_c (w : World) (x dx : Addr) (c u : Nat → TC) (b : Array UInt8) (h : Hdr) (p : Array UInt8) (tp : TC) (ks : List Int) (news : Led) (hx : (x, instObj 183 dx) ∈ news) (hd : (dx, dictOf (hdrV w c u b h) 10) ∈ news) (hb : BI b = h.options) (hp : BI p = ks) (H : ({ h with options := [] } : Hdr).Ok) (n0 : h.options.length % 4 ≠ 0 ∨ 40 < h.options.length) (n1 : h.options.length ≤ 100)  : ConS w (.ref 464) [.ref x, .bytes p tp] 10 news (fun r N => N = news ∧ r = .bool true) := by
  refine' BodKS.con ?ho ?hcd ?hb ?hq ?hloc ?hco ?hgen ?hk ?hcell ?hD (fun F9 => @wit_all _ (fra0, wrl0, 0, 0, fun _ => 0, fun _ => 0, #[], ⟨0, 0, 0, 0, 0, 0, false, false, 0, []⟩, #[], 0, [], []) law_size_fell_c_S (by with_unfolding_all exact law_size_fell_c_.run) (F9, w, x, dx, c, u, b, h, p, tp, ks, news) hx hd hb hp H n0 n1); (case ho => k_is); (case hcd => k_is); (case hb => first | (dsimp only [List.map, List.zip, List.zipWith]; done) | (dsimp only [List.map, List.zip, List.zipWith]; exact rfl)); (case hq => first | exact fun _ _ => BindsTo.of_eq rfl | (intro s7 X7; exact binds_K X7 rfl (by k_is) rfl rfl rfl)); (case hloc => exact locs rfl); (case hco => exact rfl); (case hgen => exact rfl); (case hk => exact rfl); (case hcell => decide); (case hD => decide)

theorem law_size_fell_c_k (w : World) (x dx : Addr) (c u : Nat → TC) (b : Array UInt8) (h : Hdr) (p : Array UInt8) (tp : TC) (ks : List Int) (news : Led) (hx : (x, instObj 183 dx) ∈ news) (hd : (dx, dictOf (hdrV w c u b h) 10) ∈ news) (hb : BI b = h.options) (hp : BI p = ks) (H : ({ h with options := [] } : Hdr).Ok) (n0 : h.options.length % 4 ≠ 0 ∨ 40 < h.options.length) (n1 : h.options.length ≤ 100)  :
   KonS w (.ref 464) [.ref x, .bytes p tp] 10 news (fun K9 =>  K9 (.bool true) (news))  :=
  ConS.kon (law_size_fell_c w x dx c u b h p tp ks news hx hd hb hp H n0 n1) (by
    rintro K9 g9 r9 N9 ⟨rfl, rfl⟩
    exact g9) (fun K9 K9' h9 g9 => h9 _ _ g9)
theorem reg_p21_2 : True := by
  k_with "call ref" => (k_here; (with_reducible show wpAny _ _ (call (Value.ref 464) _) _ _ _); k_dflt (refine' KonS.go ?_ ?_ ?_ ?_ ?_ ?_ ?_ ?_ ?_ ?_ ?_ ?_ ?_ ?_; walk_at "side 0"; (try any_goals ((with_reducible show Frag.In _ _); assumption)); (try any_goals ((with_reducible show Top _ _ _ _ _ _); assumption)); (any_goals ((with_reducible show KtsDicts _ _); assumption)); (any_goals ((with_reducible show KtsTurn _ _ _); first | assumption | exact KtsTurn.refl)); (any_goals ((with_reducible show KonS _ _ _ _ _ _); exact (law_size_fell_c_k _ _ _ _ _ _ _ _ _ _ _ (by k_mem) (by k_mem) (by assumption) (by assumption) (by assumption) (by assumption) (by assumption)))); walk_at "side 9"); intro _ _ _ _ _ _ _ _ _ _)
  k_with "call ref" => (k_here; (with_reducible show wpAny _ _ (call (Value.ref 464) _) _ _ _); k_dflt (refine' KonS.top ?_ ?_ ?_ ?_ ?_ ?_ ?_ ?_ ?_ ?_ ?_ ?_; walk_at "side 0"; (try any_goals ((with_reducible show Frag.In _ _); assumption)); (try any_goals ((with_reducible show Top _ _ _ _ _ _); assumption)); (any_goals ((with_reducible show KonS _ _ _ _ _ _); exact (law_size_fell_c_k _ _ _ _ _ _ _ _ _ _ _ (by k_mem) (by k_mem) (by assumption) (by assumption) (by assumption) (by assumption) (by assumption)))); walk_at "side 9"); intro _ _ _ _)
  trivial

/-! _law_refused_right: a loop whose turns catch -/
section
variable {prog : Program} {w : World} {A : Around} {E : Value → Shared → Prop} {s : Shared} {env : Env} {target : Expr} {body : List Stmt} {Q : Flow → Shared → Prop}
noncomputable def SGo (prog : Program) (w : World) (A : Around) (env : Env) (target : Expr) (body : List Stmt) (Q : Flow → Shared → Prop) (E : Value → Shared → Prop) (it : Value) (s₂ : Shared) : Prop :=
  codeAny (model prog w) A (.forLoop target it body [] env) (fun r s' => match r with | .ok f => Q f s' | .error e => cameBackBy (model prog w) A env E e s') s₂
theorem For_S {iter : Expr} {pos : Pos}
    (h : wpAny (model prog w) A (eval iter env) (fun xv s₁ => wpAny (model prog w) A (pyIter xv) (fun it s₂ => SGo prog w A env target body Q E it s₂) E s₁) E s)
    (hs : ∀ x, foldedSetIterable iter env x = pure x := by intro _; rfl) : wpAny (model prog w) A (exec (.For target iter body [] pos) env) Q E s := wpAny_For h hs
theorem sgo_range {x : Str} {px : Pos} {r : Addr} {a₀ b₀ st : Int} {t₀ u₀ v₀ : Tok} {n : Nat} (J : Nat → Shared → Prop)
    (hh : A.handled = none) (hr : IsRange s.heap r a₀ b₀ st t₀ u₀ v₀) (hsmall : Builtin.Range.small a₀ b₀ st = true) (hn : Builtin.Range.rangeSize a₀ b₀ st = (n : Int))
    (hE : PassesOwn (model prog w) A env E)
    (hJ : ∀ i s', J i s' → IsRangeIter s'.heap s.heap.objs.size (a₀ + (i : Nat) * st) ((n : Int) - (i : Nat)) st)
    (h0 : ∀ h, (∀ b o, s.heap.get? b = some o → h.get? b = some o) → IsRangeIter h s.heap.objs.size (a₀ + ((0 : Nat) : Int) * st) ((n : Int) - ((0 : Nat) : Int)) st → J 0 { s with heap := h })
    (turn : ∀ i s' h tk t, i < n → J i s' → (∀ b o, b ∉ [s.heap.objs.size] → s'.heap.get? b = some o → h.get? b = some o) → IsRangeIter h s.heap.objs.size (a₀ + ((i + 1 : Nat) : Int) * st) ((n : Int) - ((i + 1 : Nat) : Int)) st →
      wpAny (model prog w) A (assign (.Name x px) env (.int (a₀ + (i : Int) * st) t)) (fun _ s₃ => wpAny (model prog w) A (execs body env) (fun f s₄ => match f with | .ret v => Q (.ret v) s₄ | .brk => Q .next s₄ | _ => J (i + 1) s₄) E s₃) E { s' with heap := h, toks := tk })
    (done : ∀ s' h tk, J n s' → (∀ b o, b ∉ [s.heap.objs.size] → s'.heap.get? b = some o → h.get? b = some o) → Q .next { s' with heap := h, toks := tk }) :
    wpAny (model prog w) A (pyIter (.ref r)) (fun it s₂ => SGo prog w A env (.Name x px) body Q E it s₂) E s := by
  refine wpAny_pyIter_range hr hsmall ?_
  have W : Walks prog w A s.heap.objs.size [s.heap.objs.size] [s.heap.objs.size] n (fun i v => i < n ∧ ∃ t, v = .int (a₀ + i * st) t)
      (fun i h => IsRangeIter h s.heap.objs.size (a₀ + (i : Nat) * st) ((n : Int) - (i : Nat)) st) := (Walks.range hh _ a₀ st n).bound
  unfold SGo
  refine codeAny_forLoop_any (fun k s' => ∃ i, J i s' ∧ i ≤ n ∧ k = n + 1 - i) ?_ (n + 1) ⟨0, h0 _ (fun _ _ e => Heap.get?_push_of_some _ e) (by show IsRangeIter _ _ _ _ _; rw [hn]; simpa using Heap.get?_push_size _ rfl), Nat.zero_le _, rfl⟩
  rintro k s' ⟨i, hi, hin, rfl⟩
  by_cases hlt : i < n
  · refine W.item i _ _ _ hlt (hJ i s' hi) fun v h₁ tk₁ hv st₁ hk₁ => ?_
    obtain ⟨_, t, rfl⟩ := hv
    refine wpAny_of_eq (a := ()) (by rfl) ?_
    refine wpAny_mono (turn i s' h₁ tk₁ t hlt hi hk₁ st₁) (fun _ s₃ q => wpAny_mono (wpAny_passesOwn hE q) (fun f s₄ p => ?_) fun _ _ e => e) hE
    cases f with
    | ret v => exact p
    | brk => exact p
    | next => exact ⟨n + 1 - (i + 1), dec9 hlt, i + 1, p, hlt, rfl⟩
    | cont => exact ⟨n + 1 - (i + 1), dec9 hlt, i + 1, p, hlt, rfl⟩
  · obtain rfl : i = n := Nat.le_antisymm hin (Nat.not_lt.mp hlt)
    refine W.done _ _ _ (hJ i s' hi) fun h₁ tk₁ hk₁ => wpAny_execs_nil ?_
    exact done s' h₁ tk₁ hi hk₁
end
section
variable {prog : Program} {w : World} {A : Around} {E : Value → Shared → Prop} {s : Shared} {Q : Value → Shared → Prop} {d : Int} {t u : Tok}
theorem pow_bit8 (h0 : 0 ≤ d) (h1 : d < 8) (h : ∀ v, IsBit v → 1 ≤ v → v ≤ 128 → Q (.int v s.toks) { s with toks := s.toks + 1 }) : wpAny (model prog w) A (binaryOp .Pow (.int 2 t) (.int d u)) Q E s := by
  have q : IsBit (2 ^ d.toNat) ∧ (1 : Int) ≤ 2 ^ d.toNat ∧ (2 : Int) ^ d.toNat ≤ 128 := by
    have : d = 0 ∨ d = 1 ∨ d = 2 ∨ d = 3 ∨ d = 4 ∨ d = 5 ∨ d = 6 ∨ d = 7 := by lia
    rcases this with rfl | rfl | rfl | rfl | rfl | rfl | rfl | rfl <;> (unfold IsBit; decide)
  exact pow_int_small h0 (by lia) (by decide) (h _ q.1 q.2.1 q.2.2)
theorem pow_bit4 (h0 : 0 ≤ d) (h1 : d < 4) (h : ∀ v, IsBit (16 * v) → 1 ≤ v → v ≤ 8 → Q (.int v s.toks) { s with toks := s.toks + 1 }) : wpAny (model prog w) A (binaryOp .Pow (.int 2 t) (.int d u)) Q E s := by
  have q : IsBit (16 * 2 ^ d.toNat) ∧ (1 : Int) ≤ 2 ^ d.toNat ∧ (2 : Int) ^ d.toNat ≤ 8 := by
    have : d = 0 ∨ d = 1 ∨ d = 2 ∨ d = 3 := by lia
    rcases this with rfl | rfl | rfl | rfl <;> (unfold IsBit; decide)
  exact pow_int_small h0 (by lia) (by decide) (h _ q.1 q.2.1 q.2.2)
end
noncomputable def BitK (x v : Int) : Prop := (x / v % 2 = 0 → x + v < 256) ∧ (x / v % 2 ≠ 0 → 0 ≤ x - v)
theorem bit_key : ∀ n : Fin 256, BitK (n.val : Int) 1 ∧ BitK (n.val : Int) 2 ∧ BitK (n.val : Int) 4 ∧ BitK (n.val : Int) 8 ∧ BitK (n.val : Int) 16 ∧ BitK (n.val : Int) 32 ∧ BitK (n.val : Int) 64 ∧ BitK (n.val : Int) 128 := by unfold BitK; decide +kernel
theorem bit_k {x v : Int} (hb : IsBit v) (hx : 0 ≤ x ∧ x < 256) : BitK x v ∧ 1 ≤ v := by
  obtain ⟨n, rfl⟩ := Int.eq_ofNat_of_zero_le hx.1
  obtain ⟨a, b, c, d, e, f, g, h⟩ := bit_key ⟨n, Int.ofNat_lt.mp hx.2⟩
  rcases hb with rfl | rfl | rfl | rfl | rfl | rfl | rfl | rfl
  · exact ⟨a, by decide⟩
  · exact ⟨b, by decide⟩
  · exact ⟨c, by decide⟩
  · exact ⟨d, by decide⟩
  · exact ⟨e, by decide⟩
  · exact ⟨f, by decide⟩
  · exact ⟨g, by decide⟩
  · exact ⟨h, by decide⟩
theorem turn_up {x v : Int} (hb : IsBit v) (hx : 0 ≤ x ∧ x < 256) (h : x / v % 2 = 0) : 0 ≤ x + v ∧ x + v < 256 :=
  have k := bit_k hb hx
  ⟨Int.add_nonneg hx.1 (Int.le_trans (by decide) k.2), k.1.1 h⟩
theorem turn_dn {x v : Int} (hb : IsBit v) (hx : 0 ≤ x ∧ x < 256) (h : x / v % 2 ≠ 0) : 0 ≤ x - v ∧ x - v < 256 :=
  have k := bit_k hb hx
  ⟨k.1.2 h, Int.lt_of_le_of_lt (Int.sub_le_self x (Int.le_trans (by decide) k.2)) hx.2⟩
theorem turned_badI {h : Hdr} (H : h.Ok) (hO : InB h.options) {ps : List Int} {i v d : Int} (h0 : 0 ≤ i) (h1 : i < 20 + (h.options.length : Int)) (hv : v = (pk h ps).getD i.toNat 0 + d ∨ v = (pk h ps).getD i.toNat 0 - d) (hd : IsBit d) (h16 : i = 0 → 16 ≤ d) :
    ¬ ipGood ((pk h ps).take i.toNat ++ [v] ++ (pk h ps).drop (i + 1).toNat) := by
  have e : (i + 1).toNat = i.toNat + 1 := by lia
  rw [e]
  exact turned_bad H hO ps (by lia) hd hv (by lia)
theorem short_badI {h : Hdr} (H : h.Ok) {ps : List Int} (hp : ps.length ≤ 60000) {i : Int} (h0 : 0 ≤ i) (h1 : i < ((pk h ps).length : Int)) : ¬ ipGood ((pk h ps).take i.toNat) := by
  have e := pk_len h ps
  exact short_bad H ps hp (by lia)
theorem law_fell_c_k (w : World) (b : Array UInt8) (tb : TC) (ks : List Int) (news : Led) (hb : BI b = ks) (hl : ks.length ≤ 100000) (hbad : ¬ ipGood ks)  :
   KonS w (.ref 419) [.bytes b tb] 10 news (fun K9 =>  K9 (.bool true) (news))  :=
  ConS.kon (law_fell_c w b tb ks news hb hl hbad) (by
    rintro K9 g9 r9 N9 ⟨rfl, rfl⟩
    exact g9) (fun K9 K9' h9 g9 => h9 _ _ g9)
theorem reg_p22_0 : True := by
  k_with "kba_in" => ((simp only [List.forall_mem_cons, List.not_mem_nil, false_implies, implies_true, and_true]); first | exact turn_up (by assumption) (getD_inB (by assumption) _) (by assumption) | exact turn_dn (by assumption) (getD_inB (by assumption) _) (by assumption))
  k_with "binaryOp Pow int int" => (k_here; (try dsimp only); (with_reducible refine pow_bit8 (by lia) (by lia) ?_); intro _ _ _ _; (try dsimp only))
  k_with "binaryOp Pow int int" => (k_here; (try dsimp only); (with_reducible refine pow_bit4 (by lia) (by lia) ?_); intro _ _ _ _; (try dsimp only))
  k_with "call ref" => (k_here; (with_reducible show wpAny _ _ (call (Value.ref 419) _) _ _ _); k_dflt (refine' KonS.go ?_ ?_ ?_ ?_ ?_ ?_ ?_ ?_ ?_ ?_ ?_ ?_ ?_ ?_; walk_at "side 0"; (try any_goals ((with_reducible show Frag.In _ _); assumption)); (try any_goals ((with_reducible show Top _ _ _ _ _ _); assumption)); (any_goals ((with_reducible show KtsDicts _ _); assumption)); (any_goals ((with_reducible show KtsTurn _ _ _); first | assumption | exact KtsTurn.refl)); (any_goals ((with_reducible show KonS _ _ _ _ _ _); exact (law_fell_c_k _ _ _ _ _ (by assumption) (by kba_size) (by first | assumption | exact short_badI (by assumption) (by lia) (by lia) (by lia) | exact turned_badI (by assumption) (by assumption) (by lia) (by lia) (by first | exact .inr rfl | exact .inl rfl) (by assumption) (by lia))))); walk_at "side 9"); intro _ _ _ _ _ _ _ _ _ _)
  k_with "call ref" => (k_here; (with_reducible show wpAny _ _ (call (Value.ref 419) _) _ _ _); k_dflt (refine' KonS.top ?_ ?_ ?_ ?_ ?_ ?_ ?_ ?_ ?_ ?_ ?_ ?_; walk_at "side 0"; (try any_goals ((with_reducible show Frag.In _ _); assumption)); (try any_goals ((with_reducible show Top _ _ _ _ _ _); assumption)); (any_goals ((with_reducible show KonS _ _ _ _ _ _); exact (law_fell_c_k _ _ _ _ _ (by assumption) (by kba_size) (by first | assumption | exact short_badI (by assumption) (by lia) (by lia) (by lia) | exact turned_badI (by assumption) (by assumption) (by lia) (by lia) (by first | exact .inr rfl | exact .inl rfl) (by assumption) (by lia))))); walk_at "side 9"); intro _ _ _ _)
  k_with "exec For Name Call cons nil" => (k_here; k_dflt (refine' For_S ?_); k_whole)
  trivial
theorem sub3 {a b c d : Addr × Obj} {l : Led} : ∀ q ∈ d :: b :: l, q ∈ a :: b :: c :: d :: l := fun q hq => by
  simp only [List.mem_cons] at hq ⊢
  grind
theorem sub4 {a b c d : Addr × Obj} {l : Led} : ∀ q ∈ d :: b :: l, q ∈ a :: c :: b :: d :: l := fun q hq => by
  simp only [List.mem_cons] at hq ⊢
  grind
theorem fr_last {g h h' : Heap} {L I : Addr} {m : Str → Option Value} (F : Fr g L h m) (hg : g.get? I = none) (hL : L ≠ I) (hk : ∀ b o, b ∉ [I] → h.get? b = some o → h'.get? b = some o) : Fr g L h' m :=
  fr_but F hg hL fun b o hb => hk b o (by simpa using hb)
theorem news_last {g h h' : Heap} {L I : Addr} {l : Led} {o o' : Obj} (N : News g L h ((I, o) :: l)) (hl : ∀ p ∈ l, p.1 ≠ I) (hI : h'.get? I = some o') (hk : ∀ b o, b ∉ [I] → h.get? b = some o → h'.get? b = some o) : News g L h' ((I, o') :: l) := fun p hp => by
  rcases List.mem_cons.mp hp with rfl | hp
  · exact ⟨hI, (N _ (.head _)).2⟩
  · exact ⟨hk _ _ (by simpa using hl p hp) (N p (.tail _ hp)).1, (N p (.tail _ hp)).2⟩
section
variable {prog : Program} {w : World} {A : Around} {E : Value → Shared → Prop} {s : Shared} {env : Env} {body : List Stmt} {Q : Flow → Shared → Prop}
inductive SEnd (Ab : Around) (base : Heap) (out : List Env) (K : Frag) (p : Program) (loose : List Str) (mean : ExcName → Option Value) (mg mb : Str → Option Value) (g₀ : Heap) (L : Addr) (stored : List Str) (m₀ : Str → Option Value) (J : Led → Prop) (I : Addr) (oI : Obj) (s₁ : Shared) : Shared → Prop
  | mk (g h' : Heap) (tk : Nat) (m' : Str → Option Value) (nx : Led) : KtsTurn (frs out) g₀ g → Fr g L h' m' → (∀ z, stored.contains z = false → m' z = m₀ z) → News g L h' ((I, oI) :: nx) → Below Ab base out g → K.In g → Top p loose mean mg mb g → KtsDicts (frs out) g → J nx →
      SEnd Ab base out K p loose mean mg mb g₀ L stored m₀ J I oI s₁ { s₁ with heap := h', toks := tk }
inductive RInv {σ : Type} (s : Shared) (a₀ st : Int) (n : Nat) (L : Addr) (Ab : Around) (base : Heap) (out : List Env) (K : Frag) (p : Program) (loose : List Str) (mean : ExcName → Option Value) (mg mb : Str → Option Value) (g₀ : Heap) (stored : List Str) (m₀ : Str → Option Value) (L₀ : σ → Led) (P : Nat → σ → Prop) (i : Nat) : Shared → Prop
  | mk (g h' : Heap) (tk : Nat) (u : Str → Option Value) (c : σ) : KtsTurn (frs out) g₀ g → Fr g L h' (kstB (fun z => if stored.contains z then u z else m₀ z) []) → News g L h' ((s.heap.objs.size, ⟨.type "range_iterator", none, .fields #[rawInt (a₀ + (i : Int) * st), rawInt ((n : Int) - (i : Int)), rawInt st], #[]⟩) :: L₀ c) → Below Ab base out g → K.In g → Top p loose mean mg mb g → KtsDicts (frs out) g → P i c →
      RInv s a₀ st n L Ab base out K p loose mean mg mb g₀ stored m₀ L₀ P i { s with heap := h', toks := tk }
noncomputable def SPost (Ab : Around) (base : Heap) (out : List Env) (K : Frag) (p : Program) (loose : List Str) (mean : ExcName → Option Value) (mg mb : Str → Option Value) (g₀ : Heap) (L : Addr) (stored : List Str) (m₀ : Str → Option Value) (J : Led → Prop) (I : Addr) (oI : Obj) (s₁ : Shared) (Q : Flow → Shared → Prop) (f : Flow) (s₂ : Shared) : Prop :=
  match f with
  | .ret v => Q (.ret v) s₂
  | .brk => Q .next s₂
  | _ => SEnd Ab base out K p loose mean mg mb g₀ L stored m₀ J I oI s₁ s₂
theorem send {Ab : Around} {base : Heap} {out : List Env} {K : Frag} {p : Program} {loose : List Str} {mean : ExcName → Option Value} {mg mb : Str → Option Value} {g₀ g : Heap} {L : Addr} {stored : List Str} {m₀ m' : Str → Option Value} {J : Led → Prop} {I : Addr} {oI : Obj} {s₁ : Shared} {h' : Heap} {tk : Nat} {all : Led} (nx : Led)
    (F : Fr g L h' m') (hm : ∀ z, (∀ q ∈ ([] : List (Str × Value)), z ≠ q.1) → stored.contains z = false → m' z = m₀ z) (N : News g L h' all) (hsub : ∀ q ∈ (I, oI) :: nx, q ∈ all) (T : KtsTurn (frs out) g₀ g) (B : Below Ab base out g) (X : K.In g) (P : Top p loose mean mg mb g) (D : KtsDicts (frs out) g) (j : J nx) :
    SEnd Ab base out K p loose mean mg mb g₀ L stored m₀ J I oI s₁ { s₁ with heap := h', toks := tk } :=
  .mk g h' tk m' nx T F (fun z hz => hm z (fun _ h => nomatch h) hz) (news_sub N hsub) B X P D j
theorem range_turnsS {σ : Type} {x : Str} {px : Pos} {r : Addr} {a₀ b₀ st : Int} {t₀ u₀ v₀ : Tok} {n : Nat} {m₀ : Str → Option Value} {Ab : Around} {base g₀ g₁ : Heap} {out : List Env} {K : Frag} {p : Program} {loose : List Str} {mean : ExcName → Option Value} {mg mb : Str → Option Value}
    (L₀ : σ → Led) (stored : List Str) (P : Nat → σ → Prop) (c₀ : σ) (hadr : ∀ c, (L₀ c).map (·.1) = (L₀ c₀).map (·.1))
    (hh : A.handled = none) (hr : IsRange s.heap r a₀ b₀ st t₀ u₀ v₀) (hsmall : Builtin.Range.small a₀ b₀ st = true) (hn : Builtin.Range.rangeSize a₀ b₀ st = (n : Int)) (hE : PassesOwn (model prog w) A env E)
    (F : Fr g₁ env.locals s.heap m₀) (N : News g₁ env.locals s.heap (L₀ c₀)) (T₁ : KtsTurn (frs out) g₀ g₁) (B₁ : Below Ab base out g₁) (X₁ : K.In g₁) (P₁ : Top p loose mean mg mb g₁) (D₁ : KtsDicts (frs out) g₁) (hP : P 0 c₀)
    (turn : ∀ c i t (u : Str → Option Value) g h tk (I : Addr) oI, i < n → P i c → (∀ q ∈ L₀ c, q.1 < I) → Fr g env.locals h (kstB (fun z => if stored.contains z then u z else m₀ z) []) → News g env.locals h ((I, oI) :: L₀ c) → KtsTurn (frs out) g₀ g → Below Ab base out g → K.In g → Top p loose mean mg mb g → KtsDicts (frs out) g →
      wpAny (model prog w) A (assign (.Name x px) env (.int (a₀ + (i : Int) * st) t)) (fun _ s₃ => wpAny (model prog w) A (execs body env) (SPost Ab base out K p loose mean mg mb g₀ env.locals stored m₀ (fun nx => ∃ c', nx = L₀ c' ∧ P (i + 1) c') I oI { s with heap := h, toks := tk } Q) E s₃) E { s with heap := h, toks := tk })
    (done : ∀ c (u : Str → Option Value) g h tk, P n c → Fr g env.locals h (kstB (fun z => if stored.contains z then u z else m₀ z) []) → News g env.locals h (L₀ c) → KtsTurn (frs out) g₀ g → Below Ab base out g → K.In g → Top p loose mean mg mb g → KtsDicts (frs out) g → Q .next { s with heap := h, toks := tk }) :
    wpAny (model prog w) A (pyIter (.ref r)) (fun it s₂ => SGo prog w A env (.Name x px) body Q E it s₂) E s := by
  have hlt₀ : ∀ q ∈ L₀ c₀, q.1 < s.heap.objs.size := fun q hq => Heap.lt_size (N q hq).1
  have hlt : ∀ c, ∀ q ∈ L₀ c, q.1 < s.heap.objs.size := fun c q hq => by
    have h1 : q.1 ∈ (L₀ c).map (·.1) := List.mem_map.mpr ⟨q, hq, rfl⟩
    rw [hadr c] at h1
    obtain ⟨q', hq', e⟩ := List.mem_map.mp h1
    rw [← e]; exact hlt₀ q' hq'
  have hI₀ : g₁.get? s.heap.objs.size = none := next_is_new F
  have hIL : s.heap.objs.size ≠ env.locals := Ne.symm (Nat.ne_of_lt F.ns.lt)
  refine sgo_range (RInv s a₀ st n env.locals Ab base out K p loose mean mg mb g₀ stored m₀ L₀ P)
    hh hr hsmall hn hE ?_ ?_ ?_ ?_
  · rintro i s' ⟨g, h', tk, u, c, _, _, N', _, _, _, _, _⟩
    exact (N' _ (.head _)).1
  · intro h hk hit
    have hIL' : s.heap.objs.size ≠ env.locals := hIL
    refine .mk g₁ h s.toks m₀ c₀ T₁ ?_ (fun q hq => ?_) B₁ X₁ P₁ D₁ hP
    · exact ts_fr (σ := Unit) (ps := fun _ => []) (c := ()) (fun _ h => nomatch h) (fun _ _ _ => rfl) (F.keeps hk)
    · rcases List.mem_cons.mp hq with rfl | hq
      · exact ⟨hit, hIL', hI₀⟩
      · exact ⟨hk _ _ (N q hq).1, (N q hq).2⟩
  · rintro i s' h tk t hi ⟨g, h', tk', u, c, T', F', N', B', X', P', D', hPc⟩ hk hit
    have hIn := (N' _ (.head _)).2
    have F₂ := fr_last F' hIn.2 (Ne.symm hIn.1) hk
    have N₂ := news_last N' (fun q hq => Nat.ne_of_lt (hlt c q hq)) hit hk
    refine wpAny_mono (turn c i t u g h tk _ _ hi hPc (hlt c) F₂ N₂ T' B' X' P' D') (fun _ s₃ q => wpAny_mono q (fun f s₄ q' => ?_) fun _ _ e => e) fun _ _ e => e
    have fin : SEnd Ab base out K p loose mean mg mb g₀ env.locals stored m₀ (fun nx => ∃ c', nx = L₀ c' ∧ P (i + 1) c') s.heap.objs.size ⟨.type "range_iterator", none, .fields #[rawInt (a₀ + ((i + 1 : Nat) : Int) * st), rawInt ((n : Int) - ((i + 1 : Nat) : Int)), rawInt st], #[]⟩ { s with heap := h, toks := tk } s₄ →
        RInv s a₀ st n env.locals Ab base out K p loose mean mg mb g₀ stored m₀ L₀ P (i + 1) s₄ := by
      rintro ⟨g₃, h₃, tk₃, m₃, nx, T₃, F₃, hm₃, N₃, B₃, X₃, P₃, D₃, c', rfl, hP'⟩
      exact .mk g₃ h₃ tk₃ m₃ c' T₃ (ts_fr (σ := Unit) (ps := fun _ => []) (c := ()) (fun _ h => nomatch h) (fun z _ hz => hm₃ z hz) F₃) N₃ B₃ X₃ P₃ D₃ hP'
    cases f with
    | ret v => exact q'
    | brk => exact q'
    | next => exact fin q'
    | cont => exact fin q'
  · rintro s' h tk ⟨g, h', tk', u, c, T', F', N', B', X', P', D', hPc⟩ hk
    have hIn := (N' _ (.head _)).2
    have F₂ := fr_last F' hIn.2 (Ne.symm hIn.1) hk
    exact done c u g h tk hPc F₂ (fun q hq => ⟨hk _ _ (by simpa using Nat.ne_of_lt (hlt c q hq)) (N' q (.tail _ hq)).1, (N' q (.tail _ hq)).2⟩) T' B' X' P' D'
end
noncomputable def law_refused_c_S (z : Fra × World × Addr × Obj × Addr × Addr × (Nat → TC) × (Nat → TC) × Array UInt8 × Hdr × List Int × Array UInt8 × TC × Led) : Prop :=
  (fun (F9 : Fra) (w : World) (src : Addr) (o : Obj) (x : Addr) (dx : Addr) (c : Nat → TC) (u : Nat → TC) (b : Array UInt8) (h : Hdr) (ps : List Int) (oc : Array UInt8) (to : TC) (news : Led) => ∀ (hS : SrcO o), ∀ (hne : ∀ p ∈ news, p.1 ≠ src), ∀ (hx : (x, instObj 183 dx) ∈ news), ∀ (hd : (dx, dictOf (hdrV w c u b h) 10) ∈ news), ∀ (hb : BI b = h.options), ∀ (ho : BI oc = pk h ps), ∀ (H : h.Ok), ∀ (hl : ps.length ≤ 60000), BodKS w 426 [.ref src, .ref x, .bytes oc to] 12 ((src, o) :: news) (fun r N => ∃ o', N = (src, o') :: news ∧ SrcO o' ∧ r = .bool true) F9) (z.1) (z.2.1) (z.2.2.1) (z.2.2.2.1) (z.2.2.2.2.1) (z.2.2.2.2.2.1) (z.2.2.2.2.2.2.1) (z.2.2.2.2.2.2.2.1) (z.2.2.2.2.2.2.2.2.1) (z.2.2.2.2.2.2.2.2.2.1) (z.2.2.2.2.2.2.2.2.2.2.1) (z.2.2.2.2.2.2.2.2.2.2.2.1) (z.2.2.2.2.2.2.2.2.2.2.2.2.1) (z.2.2.2.2.2.2.2.2.2.2.2.2.2)
@[irreducible] noncomputable def law_refused_c_z : Fra × World × Addr × Obj × Addr × Addr × (Nat → TC) × (Nat → TC) × Array UInt8 × Hdr × List Int × Array UInt8 × TC × Led := wit (fra0, wrl0, 0, listOf #[] 0, 0, 0, fun _ => 0, fun _ => 0, #[], ⟨0, 0, 0, 0, 0, 0, false, false, 0, []⟩, [], #[], 0, []) law_refused_c_S
namespace law_refused_c_
@[irreducible] noncomputable def F9 : Fra := law_refused_c_z.1
@[irreducible] noncomputable def w : World := law_refused_c_z.2.1
@[irreducible] noncomputable def src : Addr := law_refused_c_z.2.2.1
@[irreducible] noncomputable def o : Obj := law_refused_c_z.2.2.2.1
@[irreducible] noncomputable def x : Addr := law_refused_c_z.2.2.2.2.1
@[irreducible] noncomputable def dx : Addr := law_refused_c_z.2.2.2.2.2.1
@[irreducible] noncomputable def c : Nat → TC := law_refused_c_z.2.2.2.2.2.2.1
@[irreducible] noncomputable def u : Nat → TC := law_refused_c_z.2.2.2.2.2.2.2.1
@[irreducible] noncomputable def b : Array UInt8 := law_refused_c_z.2.2.2.2.2.2.2.2.1
@[irreducible] noncomputable def h : Hdr := law_refused_c_z.2.2.2.2.2.2.2.2.2.1
@[irreducible] noncomputable def ps : List Int := law_refused_c_z.2.2.2.2.2.2.2.2.2.2.1
@[irreducible] noncomputable def oc : Array UInt8 := law_refused_c_z.2.2.2.2.2.2.2.2.2.2.2.1
@[irreducible] noncomputable def to : TC := law_refused_c_z.2.2.2.2.2.2.2.2.2.2.2.2.1
@[irreducible] noncomputable def news : Led := law_refused_c_z.2.2.2.2.2.2.2.2.2.2.2.2.2
theorem run : ∀ (hS : SrcO o), ∀ (hne : ∀ p ∈ news, p.1 ≠ src), ∀ (hx : (x, instObj 183 dx) ∈ news), ∀ (hd : (dx, dictOf (hdrV w c u b h) 10) ∈ news), ∀ (hb : BI b = h.options), ∀ (ho : BI oc = pk h ps), ∀ (H : h.Ok), ∀ (hl : ps.length ≤ 60000), BodKS w 426 [.ref src, .ref x, .bytes oc to] 12 ((src, o) :: news) (fun r N => ∃ o', N = (src, o') :: news ∧ SrcO o' ∧ r = .bool true) F9 := by
  intro hS hne hx hd hb ho H hl
  have hO := inB_of hb
  have hB := inB_of ho
  have hpl := pk_len h ps
  have n1 := H.n1
  refine' BodKS.enter ?ho ?hb ?_; (case ho => k_is); (case hb => first | (dsimp only [List.map, List.zip, List.zipWith]; done) | (dsimp only [List.map, List.zip, List.zipWith]; exact rfl))
  intro XB TB B' F' X' N' T' hd hu D' lN' hPE hPA hnx hret
  k_steps
  rename (IsRange _ _ _ _ _ _ _ _) => rg
  rename Fr _ _ _ _ => lF
  rename News _ _ _ _ => lN
  refine range_turnsS (σ := Obj) (n := 3) (fun o => (src, o) :: news) [Str.ofString "turn", Str.ofString "at", Str.ofString "bit", Str.ofString "turned"] (fun _ o => SrcO o) o (fun _ => rfl) rfl rg (by decide) (by decide) (by passes_own) lF lN KtsTurn.refl B' X' T' D' hS ?turn ?done
  case turn =>
    clear lF lN
    (repeat (rename Fr _ _ _ _ => z9; clear z9))
    (repeat (rename News _ _ _ _ => z9; clear z9))
    rintro o9 i9 t9 u9 g9 h9 tk9 I oI hi hS9 hlt9 F₁ N₁ T9 B9 X9 P9 D9
    dsimp only [kstB, envOf] at F₁ N₁
    have hI1 : @LT.lt Nat _ src I := hlt9 _ (.head _)
    try k_fold
    k_steps
    all_goals first
      | exact send ((src, _) :: news) (by assumption) (by ksw_same) (by assumption) sub3 (by assumption) (by assumption) (by assumption) (by assumption) (by assumption) ⟨_, rfl, by assumption⟩
      | exact send ((src, _) :: news) (by assumption) (by ksw_same) (by assumption) sub4 (by assumption) (by assumption) (by assumption) (by assumption) (by assumption) ⟨_, rfl, by assumption⟩
  case done =>
    clear lF lN
    (repeat (rename Fr _ _ _ _ => z9; clear z9))
    (repeat (rename News _ _ _ _ => z9; clear z9))
    rintro o9 u9 g9 h9 tk9 hS9 F₁ N₁ T9 B9 X9 P9 D9
    dsimp only [kstB, envOf] at F₁ N₁
    try k_fold
    k_steps
    ((try with_reducible refine hnx _ ?_); exact hret _ _ _ _ _ (⟨_, rfl, by assumption, rfl⟩) (by first | assumption | exact KtsTurn.refl) (by k_asm) (by first | k_asm | exact news_subL (by assumption) (by k_extra "sub") | exact news_sub (by assumption) (by intro p hp; (try simp only [List.mem_cons, List.mem_append] at hp ⊢); grind)))
end law_refused_c_
theorem law_refused_c (w : World) (src : Addr) (o : Obj) (x dx : Addr) (c u : Nat → TC) (b : Array UInt8) (h : Hdr) (ps : List Int) (oc : Array UInt8) (to : TC) (news : Led) (hS : SrcO o) (hne : ∀ p ∈ news, p.1 ≠ src) (hx : (x, instObj 183 dx) ∈ news) (hd : (dx, dictOf (hdrV w c u b h) 10) ∈ news)
   (hb : BI b = h.options) (ho : BI oc = pk h ps) (H : h.Ok) (hl : ps.length ≤ 60000)  : ConS w (.ref 426) [.ref src, .ref x, .bytes oc to] 12 ((src, o) :: news) (fun r N => ∃ o', N = (src, o') :: news ∧ SrcO o' ∧ r = .bool true) := by
  refine' BodKS.con ?ho ?hcd ?hb ?hq ?hloc ?hco ?hgen ?hk ?hcell ?hD (fun F9 => @wit_all _ (fra0, wrl0, 0, listOf #[] 0, 0, 0, fun _ => 0, fun _ => 0, #[], ⟨0, 0, 0, 0, 0, 0, false, false, 0, []⟩, [], #[], 0, []) law_refused_c_S (by with_unfolding_all exact law_refused_c_.run) (F9, w, src, o, x, dx, c, u, b, h, ps, oc, to, news) hS hne hx hd hb ho H hl); (case ho => k_is); (case hcd => k_is); (case hb => first | (dsimp only [List.map, List.zip, List.zipWith]; done) | (dsimp only [List.map, List.zip, List.zipWith]; exact rfl)); (case hq => first | exact fun _ _ => BindsTo.of_eq rfl | (intro s7 X7; exact binds_K X7 rfl (by k_is) rfl rfl rfl)); (case hloc => exact locs rfl); (case hco => exact rfl); (case hgen => exact rfl); (case hk => exact rfl); (case hcell => decide); (case hD => decide)

theorem law_refused_c_k (w : World) (src : Addr) (o : Obj) (x dx : Addr) (c u : Nat → TC) (b : Array UInt8) (h : Hdr) (ps : List Int) (oc : Array UInt8) (to : TC) (news : Led) (hS : SrcO o) (hne : ∀ p ∈ news, p.1 ≠ src) (hx : (x, instObj 183 dx) ∈ news) (hd : (dx, dictOf (hdrV w c u b h) 10) ∈ news)
   (hb : BI b = h.options) (ho : BI oc = pk h ps) (H : h.Ok) (hl : ps.length ≤ 60000)  :
   KonS w (.ref 426) [.ref src, .ref x, .bytes oc to] 12 ((src, o) :: news) (fun K9 => ∀ o', (SrcO o') → K9 (.bool true) ((src, o') :: news))  :=
  ConS.kon (law_refused_c w src o x dx c u b h ps oc to news hS hne hx hd hb ho H hl) (by
    rintro K9 g9 r9 N9 ⟨v0, rfl, v1, rfl⟩
    exact g9 v0 v1) (fun K9 K9' h9 g9 v0 v1 => h9 _ _ (g9 v0 v1))
theorem reg_p22_1 : True := by
  k_with "call ref" => (k_here; (with_reducible show wpAny _ _ (call (Value.ref 426) _) _ _ _); k_dflt (refine' KonST.go ?_ ?_ ?_ ?_ ?_ ?_ ?_ ?_ ?_ ?_ ?_ ?_ ?_ ?_; walk_at "side 1"; (try any_goals ((with_reducible show Frag.In _ _); assumption)); (try any_goals ((with_reducible show Top _ _ _ _ _ _); assumption)); (any_goals ((with_reducible show KtsDicts _ _); assumption)); (any_goals ((with_reducible show KtsTurn _ _ _); first | assumption | exact KtsTurn.refl)); (any_goals ((with_reducible show KonS _ _ _ _ _ _); exact (law_refused_c_k _ _ _ _ _ _ _ _ _ _ _ _ _ (by assumption) (by k_all) (by k_mem) (by k_mem) (by assumption) (by assumption) (by assumption) (by lia)))); walk_at "side 9"); intro _ _ _ _ _ _ _ _ _ _ _ _)
  k_with "call ref" => (k_here; (with_reducible show wpAny _ _ (call (Value.ref 426) _) _ _ _); k_dflt (refine' KonST.top ?_ ?_ ?_ ?_ ?_ ?_ ?_ ?_ ?_ ?_ ?_ ?_; walk_at "side 1"; (try any_goals ((with_reducible show Frag.In _ _); assumption)); (try any_goals ((with_reducible show Top _ _ _ _ _ _); assumption)); (any_goals ((with_reducible show KonS _ _ _ _ _ _); exact (law_refused_c_k _ _ _ _ _ _ _ _ _ _ _ _ _ (by assumption) (by k_all) (by k_mem) (by k_mem) (by assumption) (by assumption) (by assumption) (by lia)))); walk_at "side 9"); intro _ _ _ _ _ _)
  trivial

/-! _law_options_right -/
theorem ConR.toCon {w : World} {f : Value} {args : List Value} {D : Nat} {N₀ : Led} {P P' : Value → Led → Prop} {C' : Addr} {Bad : Prop} (C : ConR w f args D N₀ P C' Bad) (hb : ¬ Bad) (h : ∀ r N, P r N → P' r N) : Con w f args D N₀ P' := by
  intro dp un gd cn cs a ccd cl outer A₀ base h₀ L m s Q E p loose mean mg mb B F X N T hk hd hu ret
  exact C dp un gd cn cs a ccd cl outer A₀ base h₀ L m s Q E p loose mean mg mb B F X N T hk hd hu (fun r N₁ h' tk' hp => ret r N₁ h' tk' (h _ _ hp)) fun g e h' tk' hB => absurd hB hb
theorem read_options_k (w : World) (b : Array UInt8) (tb : TC) (ks : List Int) (l : List (Int × List Int)) (news : Led) (hb : BI b = ks) (hl : ks.length ≤ 100000) (hr : rdAll ks = some l) :
   Con w (.ref 264) [.bytes b tb] 8 news (fun r N => ∃ la ds n, r = .ref la ∧ N = (la, listOf (optR ds).toArray n) :: (optL ds ++ news) ∧ optsOf ds = l ∧ ds.length ≤ ks.length ∧ (∀ p ∈ optL ds, la < p.1) ∧ ∀ p ∈ news, p.1 < la) :=
  (read_options_c w b tb ks news hb hl).toCon (by rw [hr]; exact fun e => nomatch e) fun r N => by
    rintro ⟨la, ds, n, h1, h2, h3, h4⟩
    rw [hr] at h3
    exact ⟨la, ds, n, h1, h2, (Option.some.inj h3).symm, h4⟩
section
variable {prog : Program} {w : World} {A : Around} {E : Value → Shared → Prop} {s : Shared} {Q : Value → Shared → Prop} {b c : Array UInt8} {ks : List Int} {t u : Tok}
theorem b_ne_same (hb : BI b = ks) (hc : BI c = ks) (h : Q (.bool false) s) : wpAny (model prog w) A (compareOp .NotEq (.bytes b t) (.bytes c u)) Q E s := b_ne hb hc (by simpa using h)
theorem b_eq_same (hb : BI b = ks) (hc : BI c = ks) (h : Q (.bool true) s) : wpAny (model prog w) A (compareOp .Eq (.bytes b t) (.bytes c u)) Q E s := b_eq hb hc (by simpa using h)
end
theorem draw_oks2 {ds : List OD} (h : ∀ d ∈ ds, drawOk (d.k, BI d.b)) : ∀ q ∈ optsOf ds, optOk q := fun q hq => draw_one (draw_opts h q hq)
theorem draw_cut {ds : List OD} (h : (rawO (optsOf ds)).length ≤ 40) : (rawO ((optsOf ds).filter (fun q => decide (128 ≤ q.1)))).length ≤ 40 := Nat.le_trans (draw_filter _) h
theorem bad_of {r : Value} {b1 b2 b3 b4 b5 : Array UInt8} {t1 t2 t3 t4 t5 : TC} {l : List (Int × List Int)} (hv : r ∈ [Value.bytes b1 t1, .bytes b2 t2, .bytes b3 t3, .bytes b4 t4, .bytes b5 t5]) (h1 : BI b1 = [7]) (h2 : BI b2 = [7, 0, 0, 0]) (h3 : BI b3 = [7, 1]) (h4 : BI b4 = [1, 1, 130, 9, 0]) (h5 : BI b5 = wrO l ++ [68, 3])
    (ho : ∀ q ∈ l, optOk q) (hl : (wrO l).length ≤ 40) : ∃ b t ks, r = .bytes b t ∧ BI b = ks ∧ ks.length ≤ 1000 ∧ (rdAll ks = none ∨ (padN (rawO l).length ≠ 0 ∧ ks = wrO l ++ [68, 3])) := by
  simp only [List.mem_cons, List.not_mem_nil, or_false] at hv
  rcases hv with rfl | rfl | rfl | rfl | rfl
  · exact ⟨_, _, _, rfl, h1, by decide, .inl (by decide)⟩
  · exact ⟨_, _, _, rfl, h2, by decide, .inl (by decide)⟩
  · exact ⟨_, _, _, rfl, h3, by decide, .inl (by decide)⟩
  · exact ⟨_, _, _, rfl, h4, by decide, .inl (by decide)⟩
  · refine ⟨_, _, _, rfl, h5, by rw [List.length_append]; simp; lia, ?_⟩
    by_cases hp : padN (rawO l).length = 0
    · exact .inl (rd_wr_bad ho hp)
    · exact .inr ⟨hp, rfl⟩
theorem cut_last {ks : List Int} (h : ks ≠ []) : List.take ((none : Option Int).elim ks.length (clipAt ks.length) - (some (-1 : Int)).elim 0 (clipAt ks.length)) (List.drop ((some (-1 : Int)).elim 0 (clipAt ks.length)) ks) = ks.drop (ks.length - 1) := by
  obtain ⟨n, hn⟩ := Nat.exists_eq_succ_of_ne_zero (fun z => h (List.eq_nil_of_length_eq_zero z))
  have e : clipAt ks.length (-1) = ks.length - 1 := by rw [hn]; exact clip_last n
  simp only [Option.elim]
  rw [e, List.take_of_length_le (by rw [List.length_drop]; exact Nat.le_refl _)]
theorem bad_fin {l : List (Int × List Int)} {kx : List Int} (hd : rdAll kx = none ∨ (padN (rawO l).length ≠ 0 ∧ kx = wrO l ++ [68, 3])) (h : (rdAll kx).isNone = false) :
    ((wrO l).length : Int) ≠ 0 ∧ kx.take ((wrO l).length : Int).toNat = wrO l ∧ List.take ((none : Option Int).elim (wrO l).length (clipAt (wrO l).length) - (some (-1 : Int)).elim 0 (clipAt (wrO l).length)) (List.drop ((some (-1 : Int)).elim 0 (clipAt (wrO l).length)) (wrO l)) = [0] := by
  rcases hd with hd | ⟨hp, rfl⟩
  · rw [hd] at h; cases h
  · have e := wr_last hp
    refine ⟨fun z => e.1 (List.eq_nil_of_length_eq_zero (by lia)), ?_, by rw [cut_last e.1]; exact e.2⟩
    rw [Int.toNat_natCast, List.take_left]
theorem law_options_fell_c_k (w : World) (b : Array UInt8) (tb : TC) (ks : List Int) (news : Led) (hb : BI b = ks) (hl : ks.length ≤ 100000)  :
   KonS w (.ref 440) [.bytes b tb] 10 news (fun K9 =>  K9 (.bool (rdAll ks).isNone) (news))  :=
  ConS.kon (law_options_fell_c w b tb ks news hb hl) (by
    rintro K9 g9 r9 N9 ⟨rfl, rfl⟩
    exact g9) (fun K9 K9' h9 g9 => h9 _ _ g9)
theorem read_options_k_k (w : World) (b : Array UInt8) (tb : TC) (ks : List Int) (l : List (Int × List Int)) (news : Led) (hb : BI b = ks) (hl : ks.length ≤ 100000) (hr : rdAll ks = some l)  :
   Kon w (.ref 264) [.bytes b tb] 8 news (fun K9 => ∀ la ds n, (optsOf ds = l) → (ds.length ≤ ks.length) → ((∀ p ∈ optL ds, la < p.1)) → (∀ p ∈ news, p.1 < la) → K9 (.ref la) ((la, listOf (optR ds).toArray n) :: (optL ds ++ news)))  :=
  Con.kon (read_options_k w b tb ks l news hb hl hr) (by
    rintro K9 g9 r9 N9 ⟨v0, v1, v2, rfl, rfl, v3, v4, v5, v6⟩
    exact g9 v0 v1 v2 v3 v4 v5 v6)
theorem reg_p23_0 : True := by
  k_with "call ref" => (k_here; (with_reducible show wpAny _ _ (call (Value.ref 365) _) _ _ _); k_dflt (refine' KonT.go ?_ ?_ ?_ ?_ ?_ ?_ ?_ ?_ ?_ ?_; walk_at "side 1"; (any_goals ((with_reducible show Kon _ _ _ _ _ _); exact (law_oneV_c_k _ _ _ _ _ _ _ (by assumption) (by k_all) (by k_mem) (by exact Nat.le_of_ble_eq_true rfl) (by exact Nat.le_of_ble_eq_true rfl)))); walk_at "side 9"); intro _ _ _ _ _ _ hv' _; (obtain ⟨bx', tx', kx', eqx', hBx', hlx', hdx'⟩ := bad_of hv' (by assumption) (by assumption) (by assumption) (by assumption) (by assumption) (by assumption) (by assumption)); subst eqx')
  k_with "call ref" => (k_here; (with_reducible show wpAny _ _ (call (Value.ref 440) _) _ _ _); k_dflt (refine' KonS.go ?_ ?_ ?_ ?_ ?_ ?_ ?_ ?_ ?_ ?_ ?_ ?_ ?_ ?_; walk_at "side 0"; (try any_goals ((with_reducible show Frag.In _ _); assumption)); (try any_goals ((with_reducible show Top _ _ _ _ _ _); assumption)); (any_goals ((with_reducible show KtsDicts _ _); assumption)); (any_goals ((with_reducible show KtsTurn _ _ _); first | assumption | exact KtsTurn.refl)); (any_goals ((with_reducible show KonS _ _ _ _ _ _); exact (law_options_fell_c_k _ _ _ _ _ (by assumption) (by kba_size)))); walk_at "side 9"); intro _ _ _ _ _ _ _ _ _ _)
  k_with "call ref" => (k_here; (with_reducible show wpAny _ _ (call (Value.ref 440) _) _ _ _); k_dflt (refine' KonS.top ?_ ?_ ?_ ?_ ?_ ?_ ?_ ?_ ?_ ?_ ?_ ?_; walk_at "side 0"; (try any_goals ((with_reducible show Frag.In _ _); assumption)); (try any_goals ((with_reducible show Top _ _ _ _ _ _); assumption)); (any_goals ((with_reducible show KonS _ _ _ _ _ _); exact (law_options_fell_c_k _ _ _ _ _ (by assumption) (by kba_size)))); walk_at "side 9"); intro _ _ _ _)
  k_with "call ref" => (k_here; (with_reducible show wpAny _ _ (call (Value.ref 264) _) _ _ _); k_dflt (refine' Kon.go ?_ ?_ ?_ ?_ ?_ ?_ ?_ ?_ ?_ ?_; walk_at "side 0"; (any_goals ((with_reducible show Kon _ _ _ _ _ _); exact (read_options_k_k _ _ _ _ _ _ (by assumption) (by kba_size) (by assumption)))); walk_at "side 9"); intro _ _ _ _ _ _ _ _ _ l1' _; (try k_lt l1'))
  k_with "call ref" => (k_here; (with_reducible show wpAny _ _ (call (Value.ref 370) _) _ _ _); k_dflt (refine' KonT.go ?_ ?_ ?_ ?_ ?_ ?_ ?_ ?_ ?_ ?_; walk_at "side 1"; (any_goals ((with_reducible show Kon _ _ _ _ _ _); exact (law_options_c_k _ _ _ _ (by assumption) (by k_all)))); walk_at "side 9"); intro _ _ _ _ _ _ _ _ hl' hok' l2' l1' ls' _; (have hk2' := draw_oks hok'); (have hr2' := draw_raw hl' hok'); (have hs2' := opts_ne ls' l2'); (have hw2' := (wr_ok hr2').2); (have hq2' := rd_wr (draw_oks2 hok')); (have ho2' := draw_oks2 hok'); (have hc2' := draw_cut hr2'); (try k_lt l1'); (try k_lt2 ls'))
  k_with "compareOp NotEq bytes bytes" => (k_here; k_dflt (refine b_ne_same (by assumption) (by assumption) ?_); (try dsimp only))
  k_with "compareOp Eq bytes bytes" => (k_here; k_dflt (refine b_eq_same (by assumption) (by assumption) ?_); (try dsimp only))
  k_with "compareOp NotEq ref ref" => (k_here; (with_reducible show wpAny _ _ (compareOp CmpOp.NotEq (Value.ref _) (Value.ref _)) _ _ _); (with_reducible rename News _ _ _ _ => N9'); k_dflt (refine' sm_lstN N9' ?a ?ca ?da ?b ?cb ?db ?hu ?sm ?_; (case a => k_mem); (case ca => rfl); (case da => rfl); (case b => k_mem); (case cb => rfl); (case db => rfl); (case hu => ktr_units); (case sm => exact smAll_opts N9' (by ktr_units) (by intro d hd; repeat (first | exact List.mem_append_left _ (mem_optL hd) | refine List.mem_cons_of_mem _ ?_ | refine List.mem_append_right _ ?_)) (by intro d hd; repeat (first | exact List.mem_append_left _ (mem_optL hd) | refine List.mem_cons_of_mem _ ?_ | refine List.mem_append_right _ ?_)) (by assumption))))
  trivial
theorem nm_ds {X : List OD} (_ : ∀ d ∈ X, drawOk (d.k, BI d.b)) : ∃ Y, Y = X := ⟨X, rfl⟩
theorem nm_la {X : List OD} {a : Addr} (_ : ∀ p ∈ optL X, a < p.1) : ∃ b, b = a := ⟨a, rfl⟩
theorem nm_led {g h : Heap} {L : Addr} {l : Led} (_ : News g L h l) : ∃ l', l' = l := ⟨l, rfl⟩
noncomputable def law_options_right_c_S (z : Fra × World × Addr × Obj × Led) : Prop :=
  (fun (F9 : Fra) (w : World) (src : Addr) (o : Obj) (rest : Led) => ∀ (ho : SrcO o), ∀ (hne : ∀ p ∈ rest, p.1 ≠ src), BodKS w 445 [.ref src] 14 ((src, o) :: rest) (fun r N => ∃ o', N = (src, o') :: rest ∧ SrcO o' ∧ r = .bool true) F9) (z.1) (z.2.1) (z.2.2.1) (z.2.2.2.1) (z.2.2.2.2)
@[irreducible] noncomputable def law_options_right_c_z : Fra × World × Addr × Obj × Led := wit (fra0, wrl0, 0, listOf #[] 0, []) law_options_right_c_S
namespace law_options_right_c_
@[irreducible] noncomputable def F9 : Fra := law_options_right_c_z.1
@[irreducible] noncomputable def w : World := law_options_right_c_z.2.1
@[irreducible] noncomputable def src : Addr := law_options_right_c_z.2.2.1
@[irreducible] noncomputable def o : Obj := law_options_right_c_z.2.2.2.1
@[irreducible] noncomputable def rest : Led := law_options_right_c_z.2.2.2.2
theorem run : ∀ (ho : SrcO o), ∀ (hne : ∀ p ∈ rest, p.1 ≠ src), BodKS w 445 [.ref src] 14 ((src, o) :: rest) (fun r N => ∃ o', N = (src, o') :: rest ∧ SrcO o' ∧ r = .bool true) F9 := by
  intro ho hne
  refine' BodKS.enter ?ho ?hb ?_; (case ho => k_is); (case hb => first | (dsimp only [List.map, List.zip, List.zipWith]; done) | (dsimp only [List.map, List.zip, List.zipWith]; exact rfl))
  intro XB TB B' F' X' N' T' hd hu D' lN' hPE hPA hnx hret
  k_steps
  rename Fr _ _ _ _ => lF
  rename News _ _ _ _ => lN
  rename (∀ d ∈ _, drawOk (OD.k d, BI (OD.b d))) => hokA
  obtain ⟨dsA, eA⟩ := nm_ds hokA
  subst eA
  rename (∀ p ∈ optL dsA, _ < Prod.fst p) => habA
  obtain ⟨laA, eA⟩ := nm_la habA
  subst eA
  obtain ⟨NN, hNN⟩ := nm_led lN
  have hmA : ∃ n, (laA, listOf (optR dsA).toArray n) ∈ NN := by rw [hNN]; exact ⟨_, List.mem_cons_of_mem _ (List.mem_append_right _ (List.mem_cons_of_mem _ List.mem_cons_self))⟩
  obtain ⟨nA, hmA⟩ := hmA
  have hdA : ∀ d ∈ dsA, d.ent ∈ NN := by rw [hNN]; intro d hd; have := mem_optL hd; simp [this]
  have lN2 := lN
  rw [← hNN] at lN2
  refine comp_seq (σ := List OD) (vs := optR dsA) (fun _ => NN) (fun i ys c => ys = optR c ∧ optsOf c = ((optsOf dsA).take i).filter (fun q => decide (128 ≤ q.1)) ∧ ∀ d ∈ c, d ∈ dsA) [] rfl lF lN2 (fun _ => hmA) rfl rfl (by rw [optR_length, sizeLine_eq]; lia) (by decide) rfl ⟨rfl, rfl, fun _ h => nomatch h⟩ ?tgt ?turn ?done
  case tgt => exact fun i v c hv => .inl ⟨_, _, rfl, rfl⟩
  case turn =>
    rintro i v ys c I oI C oC D m₂ h tk E' hv ⟨rfl, hP, hsub⟩ hn hb F₁ N₁ off ⟨ne1, ne2, ne3⟩
    clear lF lN lN2
    simp only [optR, List.getElem?_map, Option.map_eq_some_iff] at hv
    obtain ⟨⟨a₁, k₁, kt₁, b₁, bt₁⟩, hd, rfl⟩ := hv
    have hm : (⟨a₁, k₁, kt₁, b₁, bt₁⟩ : OD).ent ∈ NN := hdA _ (List.mem_of_getElem? hd)
    dsimp only [OD.ent] at hm hb
    have hx1 : m₂ (Str.ofString "one") = some (.ref a₁) := hb
    have e := take_succ_filter (fun q : Int × List Int => decide (128 ≤ q.1)) (optsOf dsA) i (k₁, BI b₁) (by simp [optsOf, hd])
    dsimp only [CBody]
    k_steps
    · rename Fr _ _ _ _ => F'
      rename News _ _ _ _ => N'
      exact cend NN F' N' (fun p hp => hp) off ⟨c ++ [⟨a₁, k₁, kt₁, b₁, bt₁⟩], rfl, by rw [optR_snoc], by rw [optsOf_snoc, e, hP, if_pos (by simpa using by lia)], fun d hd => (List.mem_append.mp hd).elim (hsub d) fun h => by rw [List.mem_singleton.mp h]; exact List.mem_of_getElem? (by assumption)⟩
    · rename Fr _ _ _ _ => F'
      rename News _ _ _ _ => N'
      exact cend NN F' N' (fun p hp => hp) off ⟨c, rfl, rfl, by rw [e, hP, if_neg (by simpa using by lia), List.append_nil], hsub⟩
  case done =>
    rintro D ys c h tk ⟨rfl, hP, hsub⟩ F₁ N₁ off
    clear lF lN lN2
    rw [optR_length, show dsA.length = (optsOf dsA).length from by simp [optsOf], List.take_length] at hP
    have hokc : ∀ d ∈ c, optOk (d.k, BI d.b) := ok_of hP (draw_oks2 hokA)
    have hlc : (rawO (optsOf c)).length ≤ 40 := by rw [hP]; assumption
    have hdc : ∀ d ∈ c, d.ent ∈ (D, LCg.lst (optR c)) :: NN := fun d hd => .tail _ (hdA d (hsub d hd))
    subst hNN
    have od1 : @Ne Nat D src := Ne.symm (off _ (List.mem_cons_of_mem _ (List.mem_append_right _ List.mem_cons_self)))
    have hab2 : ∀ p ∈ optL dsA ++ rest, p.1 ≠ src := fun p hp => (List.mem_append.mp hp).elim (fun h => Nat.ne_of_gt (Nat.lt_trans (by assumption) (habA p h))) (hne p)
    rename (src < _ ∧ laA < _ ∧ AllLt _ _) => l1x
    clear habA
    rename (∀ p ∈ optL _, _ < Prod.fst p) => l2x
    have hs3 := opts_ne l1x.1 l2x
    have hs4 := l1x.1
    rename (BI _ = wrO (List.filter _ _)) => hWf
    rw [← hP] at hWf
    k_steps
    all_goals first
      | ((try with_reducible refine hnx _ ?_); exact hret _ _ _ _ _ (⟨_, rfl, by assumption, congrArg Value.bool (by assumption)⟩) (by first | assumption | exact KtsTurn.refl) (by k_asm) (by first | k_asm | exact news_subL (by assumption) (by k_extra "sub") | exact news_sub (by assumption) (by intro p hp; (try simp only [List.mem_cons, List.mem_append] at hp ⊢); grind)))
      | exact absurd (by assumption) (bad_fin (by assumption) (by assumption)).1
      | exact absurd (bad_fin (by assumption) (by assumption)).2.1 (by assumption)
      | ((try with_reducible refine hnx _ ?_); exact hret _ _ _ _ _ (⟨_, rfl, by assumption, by rw [decide_eq_true (bad_fin (by assumption) (by assumption)).2.2]; rfl⟩) (by first | assumption | exact KtsTurn.refl) (by k_asm) (by first | k_asm | exact news_subL (by assumption) (by k_extra "sub") | exact news_sub (by assumption) (by intro p hp; (try simp only [List.mem_cons, List.mem_append] at hp ⊢); grind)))
end law_options_right_c_
theorem law_options_right_c (w : World) (src : Addr) (o : Obj) (rest : Led) (ho : SrcO o) (hne : ∀ p ∈ rest, p.1 ≠ src)  : ConS w (.ref 445) [.ref src] 14 ((src, o) :: rest) (fun r N => ∃ o', N = (src, o') :: rest ∧ SrcO o' ∧ r = .bool true) := by
  refine' BodKS.con ?ho ?hcd ?hb ?hq ?hloc ?hco ?hgen ?hk ?hcell ?hD (fun F9 => @wit_all _ (fra0, wrl0, 0, listOf #[] 0, []) law_options_right_c_S (by with_unfolding_all exact law_options_right_c_.run) (F9, w, src, o, rest) ho hne); (case ho => k_is); (case hcd => k_is); (case hb => first | (dsimp only [List.map, List.zip, List.zipWith]; done) | (dsimp only [List.map, List.zip, List.zipWith]; exact rfl)); (case hq => first | exact fun _ _ => BindsTo.of_eq rfl | (intro s7 X7; exact binds_K X7 rfl (by k_is) rfl rfl rfl)); (case hloc => exact locs rfl); (case hco => exact rfl); (case hgen => exact rfl); (case hk => exact rfl); (case hcell => decide); (case hD => decide)

theorem law_options_right_c_k (w : World) (src : Addr) (o : Obj) (rest : Led) (ho : SrcO o) (hne : ∀ p ∈ rest, p.1 ≠ src)  :
   KonS w (.ref 445) [.ref src] 14 ((src, o) :: rest) (fun K9 => ∀ o', (SrcO o') → K9 (.bool true) ((src, o') :: rest))  :=
  ConS.kon (law_options_right_c w src o rest ho hne) (by
    rintro K9 g9 r9 N9 ⟨v0, rfl, v1, rfl⟩
    exact g9 v0 v1) (fun K9 K9' h9 g9 v0 v1 => h9 _ _ (g9 v0 v1))
theorem reg_p23_1 : True := by
  k_with "call ref" => (k_here; (with_reducible show wpAny _ _ (call (Value.ref 445) _) _ _ _); k_dflt (refine' KonST.go ?_ ?_ ?_ ?_ ?_ ?_ ?_ ?_ ?_ ?_ ?_ ?_ ?_ ?_; walk_at "side 1"; (try any_goals ((with_reducible show Frag.In _ _); assumption)); (try any_goals ((with_reducible show Top _ _ _ _ _ _); assumption)); (any_goals ((with_reducible show KtsDicts _ _); assumption)); (any_goals ((with_reducible show KtsTurn _ _ _); first | assumption | exact KtsTurn.refl)); (any_goals ((with_reducible show KonS _ _ _ _ _ _); exact (law_options_right_c_k _ _ _ _ (by assumption) (by k_all)))); walk_at "side 9"); intro _ _ _ _ _ _ _ _ _ _ _ _)
  k_with "call ref" => (k_here; (with_reducible show wpAny _ _ (call (Value.ref 445) _) _ _ _); k_dflt (refine' KonST.top ?_ ?_ ?_ ?_ ?_ ?_ ?_ ?_ ?_ ?_ ?_ ?_; walk_at "side 1"; (try any_goals ((with_reducible show Frag.In _ _); assumption)); (try any_goals ((with_reducible show Top _ _ _ _ _ _); assumption)); (any_goals ((with_reducible show KonS _ _ _ _ _ _); exact (law_options_right_c_k _ _ _ _ (by assumption) (by k_all)))); walk_at "side 9"); intro _ _ _ _ _ _)
  trivial

/-! _law_records_right -/
structure ReS where
  o : Obj
  la : Addr
  vs : List Value
  n : Nat
  as : List Int
  b : Array UInt8
  t : TC
theorem record_route_k (w : World) (b : Array UInt8) (bt : TC) (ks : List Int) (a : Int) (ta : TC) (news : Led) (hb : BI b = ks) (hl : ks.length ≤ 250) (hp : ptrGood ks) :
   Con w (.ref 325) [.bytes b bt, .int a ta] 7 news (fun r N => N = news ∧ ∃ b t, r = .bytes b t ∧ BI b = recO ks a) :=
  (record_route_c w b bt ks a ta news hb hl).toCon (fun h => h hp) fun r N ⟨h1, b, t, h2, h3, _⟩ => ⟨h1, b, t, h2, h3⟩
theorem record_route_a (w : World) (b : Array UInt8) (bt : TC) (m : Nat) (as : List Int) (a : Int) (ta : TC) (news : Led) (hb : BI b = RW as (List.replicate (4 * (m - as.length)) 0)) (hl : as.length ≤ m) (hm : m ≤ 5) :
   Con w (.ref 325) [.bytes b bt, .int a ta] 7 news (fun r N => N = news ∧ ∃ b t, r = .bytes b t ∧ BI b = RW (addA m as a) (List.replicate (4 * (m - (addA m as a).length)) 0)) :=
  (record_route_k w b bt _ a ta news hb (by rw [RW_len, List.length_replicate, roomA hl]; exact roomB hm) (RW_good _ _)).mono fun r N ⟨h1, b, t, h2, h3⟩ => ⟨h1, b, t, h2, h3.trans (rec_add hl)⟩
theorem recorded_a (w : World) (b : Array UInt8) (bt : TC) (as zs : List Int) (news : Led) (hb : BI b = RW as zs) (hl : (RW as zs).length ≤ 250) (hA : InA as) :
   Con w (.ref 330) [.bytes b bt] 7 news (fun r N => ∃ lb vs n, r = .ref lb ∧ N = (lb, listOf vs.toArray n) :: news ∧ IntsAre vs as ∧ ∀ p ∈ news, p.1 ≠ lb) :=
  (recorded_c w b bt _ news hb hl (RW_good _ _)).mono fun r N => by rw [recL_RW hA]; exact id
theorem addA_room {m : Nat} {as : List Int} {a : Int} (h : as.length ≤ m) (hm : m ≤ 5) : (RW (addA m as a) (List.replicate (4 * (m - (addA m as a).length)) 0)).length ≤ 250 := by
  rw [RW_len, List.length_replicate, roomA (addA_le h)]; exact roomB hm
theorem addA_due {m : Nat} {as : List Int} {a M : Int} (hM : M = (m : Int)) : addA m as a = as ++ (List.replicate (if decide ((as.length : Int) < M) = true then (1 : Int) else 0).toNat [a]).flatten := by
  subst hM
  unfold addA
  by_cases h : as.length < m
  · rw [if_pos h, if_pos (by simpa using h)]; rfl
  · rw [if_neg h, if_neg (by simpa using h)]; exact (List.append_nil _).symm
theorem addA_min {m i : Nat} {as : List Int} {a : Int} (h : as.length = min i m) : (addA m as a).length = min (i + 1) m := by
  unfold addA; split
  · rw [List.length_append, List.length_singleton]; lia
  · rename (¬ _ < _) => hc
    have hm : m ≤ i := Nat.le_trans (h ▸ Nat.not_lt.mp hc) (Nat.min_le_left i m)
    rw [h, Nat.min_eq_right hm, Nat.min_eq_right (Nat.le_succ_of_le hm)]
theorem addA_lenI {m : Nat} {as : List Int} {a M : Int} (h : as.length ≤ m) (hM : M = (m : Int)) : ((RW (addA m as a) (List.replicate (4 * (m - (addA m as a).length)) 0)).length : Int) = 1 + 4 * M := by
  rw [RW_len, List.length_replicate, roomA (addA_le h), hM]; rfl
noncomputable def two0O : List Int := [4] ++ List.replicate (4 * (2 : Int)).toNat 0
theorem write_two (w : World) (la t1 t2 : Addr) (kt1 kt2 bt1 bt2 : TC) (b1 b2 : Array UInt8) (n : Nat) (news : Led) (hla : (la, listOf #[.ref t1, .ref t2] n) ∈ news)
    (h1 : (t1, Obj.mk (.type "tuple") none (.seq #[.int 1 kt1, .bytes b1 bt1]) #[]) ∈ news) (h2 : (t2, Obj.mk (.type "tuple") none (.seq #[.int 7 kt2, .bytes b2 bt2]) #[]) ∈ news) (hb1 : BI b1 = []) (hb2 : BI b2 = [4] ++ List.replicate (4 * (2 : Int)).toNat 0) :
   Con w (.ref 278) [.ref la] 6 news (fun r N => N = news ∧ ∃ b t, r = .bytes b t ∧ BI b = wrO [(1, []), (7, two0O)]) := by
  have e : optsOf [⟨t1, 1, kt1, b1, bt1⟩, ⟨t2, 7, kt2, b2, bt2⟩] = [(1, []), (7, two0O)] := by
    show [((1 : Int), BI b1), ((7 : Int), BI b2)] = _
    rw [hb1, hb2]; rfl
  rw [← e]
  refine write_options_c w la [⟨t1, 1, kt1, b1, bt1⟩, ⟨t2, 7, kt2, b2, bt2⟩] n news hla ?_ ?_ (by rw [e]; decide)
  · intro d hd
    rcases List.mem_cons.mp hd with rfl | hd
    · exact h1
    · rw [List.mem_singleton.mp hd]; exact h2
  · intro d hd
    rcases List.mem_cons.mp hd with rfl | hd
    · exact .inl ⟨rfl, hb1⟩
    · rw [List.mem_singleton.mp hd]
      refine .inr ⟨show (2 : Int) ≤ 7 by decide, show (7 : Int) ≤ 255 by decide, ?_⟩
      dsimp only
      rw [hb2]; decide
theorem two_ok {ad : Int} : ∀ q ∈ [((1 : Int), ([] : List Int)), (7, RW [ad] (List.replicate 4 0))], optOk q := by
  intro q hq
  rcases List.mem_cons.mp hq with rfl | hq
  · exact .inl ⟨rfl, rfl⟩
  · rw [List.mem_singleton.mp hq]
    exact .inr ⟨show (2 : Int) ≤ 7 by decide, show (7 : Int) ≤ 255 by decide, by dsimp only; rw [RW_len]; simp⟩
theorem two_map {ad : Int} : [((1 : Int), ([] : List Int)), (7, two0O)].map (recQ ad) = [(1, []), (7, RW [ad] (List.replicate 4 0))] := by
  have e : two0O = RW [] (List.replicate 8 0) := rfl
  have e2 : recO two0O ad = RW [ad] (List.replicate 4 0) := by
    rw [e, rec_step (by simp)]; rfl
  simp only [List.map_cons, List.map_nil, recQ, e2]
  rfl
theorem rec_two (w : World) (b : Array UInt8) (bt : TC) (ad : Int) (ta : TC) (news : Led) (hb : BI b = wrO [(1, []), (7, two0O)]) :
   Con w (.ref 337) [.bytes b bt, .int ad ta] 10 news (fun r N => N = news ∧ ∃ b t, r = .bytes b t ∧ BI b = wrO [(1, []), (7, RW [ad] (List.replicate 4 0))]) := by
  have C := record_in_c w b bt _ [(1, []), (7, two0O)] ad ta news hb (by decide) (by decide) (fun q hq h7 => ?_) (fun q hq => ?_) ?_ ?_
  · rw [two_map] at C; exact C
  · rcases List.mem_cons.mp hq with rfl | hq
    · exact absurd h7 (by decide)
    · rw [List.mem_singleton.mp hq]; exact ⟨by decide, by decide⟩
  · rcases List.mem_cons.mp hq with rfl | hq
    · exact Nat.zero_le _
    · rw [List.mem_singleton.mp hq]; decide
  · intro q hq
    have h := List.mem_map_of_mem (f := recQ ad) hq
    rw [two_map] at h
    exact two_ok _ h
  · rw [two_map]
    show (optB (1, []) ++ (optB (7, RW [ad] (List.replicate 4 0)) ++ [])).length ≤ 40
    have e1 : (optB ((7 : Int), RW [ad] (List.replicate 4 0))).length = (RW [ad] (List.replicate 4 0)).length + 2 := by unfold optB; rw [if_neg (show ¬ (7 : Int) = 1 by decide)]; simp
    rw [List.length_append, List.length_append, e1, RW_len]; simp [optB]
theorem read_two (w : World) (b : Array UInt8) (tb : TC) (ad : Int) (news : Led) (hb : BI b = wrO [(1, []), (7, RW [ad] (List.replicate 4 0))]) :
   Con w (.ref 264) [.bytes b tb] 8 news (fun r N => ∃ la a1 a2 kt1 kt2 bt1 bt2 b1 b2 n, r = .ref la ∧ N = (la, listOf #[.ref a1, .ref a2] n) :: (a1, Obj.mk (.type "tuple") none (.seq #[.int 1 kt1, .bytes b1 bt1]) #[]) :: (a2, Obj.mk (.type "tuple") none (.seq #[.int 7 kt2, .bytes b2 bt2]) #[]) :: news ∧
     BI b1 = [] ∧ BI b2 = RW [ad] (List.replicate 4 0) ∧ la < a1 ∧ la < a2 ∧ ∀ p ∈ news, p.1 < la) := by
  have hl : (wrO [(1, []), (7, RW [ad] (List.replicate 4 0))]).length ≤ 100000 := by
    unfold wrO
    rw [padO_len]
    have e1 : (optB ((7 : Int), RW [ad] (List.replicate 4 0))).length = (RW [ad] (List.replicate 4 0)).length + 2 := by unfold optB; rw [if_neg (show ¬ (7 : Int) = 1 by decide)]; simp
    have e2 : (rawO [(1, []), (7, RW [ad] (List.replicate 4 0))]).length = 12 := by
      show (optB (1, []) ++ (optB (7, RW [ad] (List.replicate 4 0)) ++ [])).length = 12
      rw [List.length_append, List.length_append, e1, RW_len]; simp [optB]
    lia
  refine (read_options_k w b tb _ _ news hb hl (rd_wr two_ok)).mono ?_
  rintro r N ⟨la, ds, n, rfl, rfl, h1, _, h2, h3⟩
  match ds, h1, h2 with
  | [⟨a1, k1, kt1, b1, bt1⟩, ⟨a2, k2, kt2, b2, bt2⟩], h1, h2 =>
    simp only [optsOf, List.map_cons, List.map_nil, List.cons.injEq, Prod.mk.injEq, and_true] at h1
    obtain ⟨⟨rfl, e1⟩, rfl, e2⟩ := h1
    exact ⟨la, a1, a2, kt1, kt2, bt1, bt2, b1, b2, n, rfl, rfl, e1, e2, h2 _ (.head _), h2 _ (.tail _ (.head _)), h3⟩
  | [], h1, _ => simp [optsOf] at h1
  | [_], h1, _ => simp [optsOf] at h1
  | _ :: _ :: _ :: _, h1, _ => simp [optsOf] at h1
theorem addA_len {m : Nat} {as : List Int} {a : Int} : 1 + 4 * (addA m as a).length + 4 * (m - (addA m as a).length) = (RW (addA m as a) (List.replicate (4 * (m - (addA m as a).length)) 0)).length := by rw [RW_len, List.length_replicate]
theorem record_route_k_k (w : World) (b : Array UInt8) (bt : TC) (ks : List Int) (a : Int) (ta : TC) (news : Led) (hb : BI b = ks) (hl : ks.length ≤ 250) (hp : ptrGood ks)  :
   Kon w (.ref 325) [.bytes b bt, .int a ta] 7 news (fun K9 => ∀ b t, (BI b = recO ks a) → K9 (.bytes b t) (news))  :=
  Con.kon (record_route_k w b bt ks a ta news hb hl hp) (by
    rintro K9 g9 r9 N9 ⟨rfl, v0, v1, rfl, v2⟩
    exact g9 v0 v1 v2)
theorem record_route_a_k (w : World) (b : Array UInt8) (bt : TC) (m : Nat) (as : List Int) (a : Int) (ta : TC) (news : Led) (hb : BI b = RW as (List.replicate (4 * (m - as.length)) 0)) (hl : as.length ≤ m) (hm : m ≤ 5)  :
   Kon w (.ref 325) [.bytes b bt, .int a ta] 7 news (fun K9 => ∀ b t, (BI b = RW (addA m as a) (List.replicate (4 * (m - (addA m as a).length)) 0)) → K9 (.bytes b t) (news))  :=
  Con.kon (record_route_a w b bt m as a ta news hb hl hm) (by
    rintro K9 g9 r9 N9 ⟨rfl, v0, v1, rfl, v2⟩
    exact g9 v0 v1 v2)
theorem recorded_a_k (w : World) (b : Array UInt8) (bt : TC) (as zs : List Int) (news : Led) (hb : BI b = RW as zs) (hl : (RW as zs).length ≤ 250) (hA : InA as)  :
   Kon w (.ref 330) [.bytes b bt] 7 news (fun K9 => ∀ lb vs n, (IntsAre vs as) → (∀ p ∈ news, p.1 ≠ lb) → K9 (.ref lb) ((lb, listOf vs.toArray n) :: news))  :=
  Con.kon (recorded_a w b bt as zs news hb hl hA) (by
    rintro K9 g9 r9 N9 ⟨v0, v1, v2, rfl, rfl, v3, v4⟩
    exact g9 v0 v1 v2 v3 v4)
theorem write_two_k (w : World) (la t1 t2 : Addr) (kt1 kt2 bt1 bt2 : TC) (b1 b2 : Array UInt8) (n : Nat) (news : Led) (hla : (la, listOf #[.ref t1, .ref t2] n) ∈ news)
    (h1 : (t1, Obj.mk (.type "tuple") none (.seq #[.int 1 kt1, .bytes b1 bt1]) #[]) ∈ news) (h2 : (t2, Obj.mk (.type "tuple") none (.seq #[.int 7 kt2, .bytes b2 bt2]) #[]) ∈ news) (hb1 : BI b1 = []) (hb2 : BI b2 = [4] ++ List.replicate (4 * (2 : Int)).toNat 0)  :
   Kon w (.ref 278) [.ref la] 6 news (fun K9 => ∀ b t, (BI b = wrO [(1, []), (7, two0O)]) → K9 (.bytes b t) (news))  :=
  Con.kon (write_two w la t1 t2 kt1 kt2 bt1 bt2 b1 b2 n news hla h1 h2 hb1 hb2) (by
    rintro K9 g9 r9 N9 ⟨rfl, v0, v1, rfl, v2⟩
    exact g9 v0 v1 v2)
theorem rec_two_k (w : World) (b : Array UInt8) (bt : TC) (ad : Int) (ta : TC) (news : Led) (hb : BI b = wrO [(1, []), (7, two0O)])  :
   Kon w (.ref 337) [.bytes b bt, .int ad ta] 10 news (fun K9 => ∀ b t, (BI b = wrO [(1, []), (7, RW [ad] (List.replicate 4 0))]) → K9 (.bytes b t) (news))  :=
  Con.kon (rec_two w b bt ad ta news hb) (by
    rintro K9 g9 r9 N9 ⟨rfl, v0, v1, rfl, v2⟩
    exact g9 v0 v1 v2)
theorem read_two_k (w : World) (b : Array UInt8) (tb : TC) (ad : Int) (news : Led) (hb : BI b = wrO [(1, []), (7, RW [ad] (List.replicate 4 0))])  :
   Kon w (.ref 264) [.bytes b tb] 8 news (fun K9 => ∀ la a1 a2 kt1 kt2 bt1 bt2 b1 b2 n, (BI b1 = []) → (BI b2 = RW [ad] (List.replicate 4 0)) → (la < a1) → (la < a2) → (∀ p ∈ news, p.1 < la) → K9 (.ref la) ((la, listOf #[.ref a1, .ref a2] n) :: (a1, Obj.mk (.type "tuple") none (.seq #[.int 1 kt1, .bytes b1 bt1]) #[]) :: (a2, Obj.mk (.type "tuple") none (.seq #[.int 7 kt2, .bytes b2 bt2]) #[]) :: news))  :=
  Con.kon (read_two w b tb ad news hb) (by
    rintro K9 g9 r9 N9 ⟨v0, v1, v2, v3, v4, v5, v6, v7, v8, v9, rfl, rfl, v10, v11, v12, v13, v14⟩
    exact g9 v0 v1 v2 v3 v4 v5 v6 v7 v8 v9 v10 v11 v12 v13 v14)
theorem reg_p24_0 : True := by
  k_with "call ref" => (k_here; (with_reducible show wpAny _ _ (call (Value.ref 325) _) _ _ _); k_dflt (refine' Kon.go ?_ ?_ ?_ ?_ ?_ ?_ ?_ ?_ ?_ ?_; walk_at "side 0"; (any_goals ((with_reducible show Kon _ _ _ _ _ _); exact (record_route_k_k _ _ _ _ _ _ _ (by assumption) (by kba_size) (by assumption)))); walk_at "side 9"); intro _ _ _ _ _ _ _)
  k_with "call ref" => (k_here; (with_reducible show wpAny _ _ (call (Value.ref 325) _) _ _ _); k_dflt (refine' Kon.go ?_ ?_ ?_ ?_ ?_ ?_ ?_ ?_ ?_ ?_; walk_at "side 0"; (any_goals ((with_reducible show Kon _ _ _ _ _ _); exact (record_route_a_k _ _ _ _ _ _ _ _ (by assumption) (by assumption) (by lia)))); walk_at "side 9"); intro _ _ _ _ _ _ _)
  k_with "call ref" => (k_here; (with_reducible show wpAny _ _ (call (Value.ref 330) _) _ _ _); k_dflt (refine' Kon.go ?_ ?_ ?_ ?_ ?_ ?_ ?_ ?_ ?_ ?_; walk_at "side 0"; (any_goals ((with_reducible show Kon _ _ _ _ _ _); exact (recorded_a_k _ _ _ _ _ _ (by assumption) (by first | exact addA_room (by assumption) (by lia) | (rw [RW_len, List.length_replicate]; simp only [List.length_cons, List.length_nil]; lia)) (by first | assumption | exact addA_in (by assumption) (by assumption) (by assumption))))); walk_at "side 9"); intro _ _ _ _ _ _ _ _ _)
  k_with "kba_size" => exact Nat.le_trans (addA_room (by assumption) (by lia)) (Nat.le_of_ble_eq_true rfl)
  k_with "call ref" => (k_here; (with_reducible show wpAny _ _ (call (Value.ref 278) _) _ _ _); k_dflt (refine' Kon.go ?_ ?_ ?_ ?_ ?_ ?_ ?_ ?_ ?_ ?_; walk_at "side 0"; (any_goals ((with_reducible show Kon _ _ _ _ _ _); exact (write_two_k _ _ _ _ _ _ _ _ _ _ _ _ (by k_mem) (by k_mem) (by k_mem) (by assumption) (by assumption)))); walk_at "side 9"); intro _ _ _ _ _ _ _)
  k_with "call ref" => (k_here; (with_reducible show wpAny _ _ (call (Value.ref 337) _) _ _ _); k_dflt (refine' Kon.go ?_ ?_ ?_ ?_ ?_ ?_ ?_ ?_ ?_ ?_; walk_at "side 0"; (any_goals ((with_reducible show Kon _ _ _ _ _ _); exact (rec_two_k _ _ _ _ _ _ (by assumption)))); walk_at "side 9"); intro _ _ _ _ _ _ _)
  k_with "call ref" => (k_here; (with_reducible show wpAny _ _ (call (Value.ref 264) _) _ _ _); k_dflt (refine' Kon.go ?_ ?_ ?_ ?_ ?_ ?_ ?_ ?_ ?_ ?_; walk_at "side 0"; (any_goals ((with_reducible show Kon _ _ _ _ _ _); exact (read_two_k _ _ _ _ _ (by assumption)))); walk_at "side 9"); intro _ _ _ _ _ _ _ _ _ _ _ _ _ _ _ l3' l2' l1' _; (try k_lt l1'); (try k_lt2 l2'); (try k_lt2 l3'))
  k_with "exec For Name Call cons nil" => (k_here; (with_unfolding_all refine' For_turns (by assumption) ?_; k_whole))
  trivial
theorem nm_ints {vs : List Value} {ns : List Int} (_ : IntsAre vs ns) : ∃ y, y = vs := ⟨vs, rfl⟩
theorem nm_lt {a b : Addr} (_ : a < b) : ∃ y, y = b := ⟨b, rfl⟩
noncomputable def law_records_c_S (z : Fra × World × Addr × Obj × Led) : Prop :=
  (fun (F9 : Fra) (w : World) (src : Addr) (o : Obj) (rest : Led) => ∀ (ho : SrcO o), ∀ (hne : ∀ p ∈ rest, p.1 ≠ src), BodKS w 452 [.ref src] 14 ((src, o) :: rest) (fun r N => ∃ o', N = (src, o') :: rest ∧ SrcO o' ∧ r = .bool true) F9) (z.1) (z.2.1) (z.2.2.1) (z.2.2.2.1) (z.2.2.2.2)
@[irreducible] noncomputable def law_records_c_z : Fra × World × Addr × Obj × Led := wit (fra0, wrl0, 0, listOf #[] 0, []) law_records_c_S
namespace law_records_c_
@[irreducible] noncomputable def F9 : Fra := law_records_c_z.1
@[irreducible] noncomputable def w : World := law_records_c_z.2.1
@[irreducible] noncomputable def src : Addr := law_records_c_z.2.2.1
@[irreducible] noncomputable def o : Obj := law_records_c_z.2.2.2.1
@[irreducible] noncomputable def rest : Led := law_records_c_z.2.2.2.2
theorem run : ∀ (ho : SrcO o), ∀ (hne : ∀ p ∈ rest, p.1 ≠ src), BodKS w 452 [.ref src] 14 ((src, o) :: rest) (fun r N => ∃ o', N = (src, o') :: rest ∧ SrcO o' ∧ r = .bool true) F9 := by
  intro ho hne
  refine' BodKS.enter ?ho ?hb ?_; (case ho => k_is); (case hb => first | (dsimp only [List.map, List.zip, List.zipWith]; done) | (dsimp only [List.map, List.zip, List.zipWith]; exact rfl))
  intro XB TB B' F' X' N' T' hd hu D' lN' hPE hPA hnx hret
  k_steps
  rename_i o2 d2 td hS hd1 hd2 h1 tk1 h2 tk2 b0 tb0 hB0 la h3 lz1 DT h4 lz2 h5 h6 h7 lFa lNa h8 tk8 t1 u1 v1 rg lF lN hkp
  clear lFa lNa
  obtain ⟨m, hm⟩ : ∃ m, m = (1 + d2).toNat := ⟨_, rfl⟩
  have hB1 : BI b0 = RW [] (List.replicate (4 * (m - ([] : List Int).length)) 0) := by rw [hB0, RW_new, show (4 * (1 + d2)).toNat = 4 * (m - ([] : List Int).length) from by simp; lia]
  have lN2 := news_sub (l' := (src, o2) :: (la, listOf #[] 0) :: rest) lN (fun p hp => by
    simp only [List.mem_cons] at hp ⊢
    grind)
  refine range_turns (σ := ReS) (n := (1 + d2 + 1).toNat) (fun c => (src, c.o) :: (c.la, listOf c.vs.toArray c.n) :: rest) (fun c => [(Str.ofString "told", .bytes c.b c.t), (Str.ofString "due", .ref c.la)]) [Str.ofString "turn", Str.ofString "address"]
    (fun i c => SrcO c.o ∧ IntsAre c.vs c.as ∧ c.as.length = min i m ∧ InA c.as ∧ BI c.b = RW c.as (List.replicate (4 * (m - c.as.length)) 0) ∧ c.la ≠ src ∧ ∀ p ∈ rest, p.1 ≠ c.la) ⟨o2, la, [], 0, [], b0, _⟩ rfl rg (small_0 (by lia) (by lia)) (rangeSize_0 (by lia)) lF lN2 (by kst_all) ⟨hS, .nil, by simp, (fun _ h => nomatch h), hB1, Nat.ne_of_gt lz1.1, fun p hp => Nat.ne_of_lt (allLt_mem lz1.2 hp)⟩ ?turn ?done
  case turn =>
    rintro ⟨o9, la9, vs9, n9, as9, b9, t9⟩ i9 t10 u9 h9 tk9 own I hi ⟨hS9, hI9, hl9, hA9, hB9, hne9, hr9⟩ hoff hlt ⟨hown, oI, hinI⟩ F₁ N₁
    clear lF lN lN2
    dsimp only [kstB, envOf] at F₁ N₁ hoff hS9 hI9 hl9 hA9 hB9 hne9 hr9
    have hI3 : ∀ p ∈ own, p.1 = I := fun p hp => List.mem_singleton.mp (hown p hp)
    have hsI : src ≠ I := fun e => hoff _ (.head _) (by rw [← e]; exact .head _)
    have hlI : la9 ≠ I := fun e => hoff _ (.tail _ (.head _)) (by rw [← e]; exact .head _)
    obtain ⟨r9, hr9e⟩ : ∃ r9, r9 = rest ++ own := ⟨_, rfl⟩
    have hq1 : ∀ p ∈ r9, p.1 ≠ src := fun p hp => by
      rw [hr9e] at hp
      exact (List.mem_append.mp hp).elim (hne p) fun h => by rw [hI3 p h]; exact Ne.symm hsI
    have hq2 : ∀ p ∈ r9, p.1 ≠ la9 := fun p hp => by
      rw [hr9e] at hp
      exact (List.mem_append.mp hp).elim (hr9 p) fun h => by rw [hI3 p h]; exact Ne.symm hlI
    have N₂ := news_sub (l' := (src, o9) :: (la9, listOf vs9.toArray n9) :: r9) N₁ (fun p hp => by rw [hr9e] at hp; simpa using hp)
    clear N₁
    have hle9 : as9.length ≤ m := by lia
    have hm5 : m ≤ 3 := by lia
    have hvl := hI9.length
    have hne9' : @Ne Nat la9 src := hne9
    try k_fold
    have hM : 1 + d2 = (m : Int) := by lia
    k_steps
    all_goals first
      | exact absurd (addA_due hM) (by assumption)
      | exact absurd (addA_lenI hle9 hM) (by assumption)
      | skip
    rename (IntsAre _ (as9 ++ _)) => hIw
    obtain ⟨ws, eA⟩ := nm_ints hIw
    subst eA
    rename (SrcO _) => hSx
    rename (_ < _ ∧ _ < _ ∧ src < _ ∧ la9 < _ ∧ AllLt _ _) => zl
    obtain ⟨DW, eA⟩ := nm_lt zl.1
    subst eA
    rename (0 ≤ _) => hv1
    rename (_ < 4294967296) => hv2
    rename (BI _ = RW (addA _ _ _) _) => hBn
    rename News _ _ _ _ => nE
    have hDI : DW ≠ I := Nat.ne_of_gt (allLt_mem zl.2.2.2.2 (p := (I, oI)) (by rw [hr9e]; exact List.mem_append_right _ hinI))
    have hDr : ∀ p ∈ rest, p.1 ≠ DW := fun p hp => Nat.ne_of_lt (allLt_mem zl.2.2.2.2 (by rw [hr9e]; exact List.mem_append_left _ hp))
    rw [← addA_due hM] at hIw
    exact tend ⟨_, DW, ws, 0, _, _, _⟩ (by assumption) nE (by intro p hp; rw [hr9e]; simp only [List.mem_cons, List.mem_append] at hp ⊢; grind) (by intro p hp; rw [hr9e]; simp only [List.mem_cons, List.mem_append] at hp ⊢; grind)
      (by
        intro p hp
        rcases List.mem_cons.mp hp with rfl | hp
        · exact fun e => hsI (List.mem_singleton.mp e)
        rcases List.mem_cons.mp hp with rfl | hp
        · exact fun e => hDI (List.mem_singleton.mp e)
        · exact hoff p (.tail _ (.tail _ hp)))
      (by kst_all) (by ksw_same) ⟨hSx, hIw, addA_min hl9, addA_in hA9 hv1 hv2, hBn, Nat.ne_of_gt zl.2.2.1, hDr⟩
  case done =>
    rintro ⟨o9, la9, vs9, n9, as9, b9, t9⟩ u9 h9 tk9 ⟨hS9, hI9, hl9, hA9, hB9, hne9, hr9⟩ F₁ N₁
    clear lF lN lN2
    dsimp only [kstB, envOf] at F₁ N₁ hS9 hI9 hl9 hA9 hB9 hne9 hr9
    have hne9' : @Ne Nat la9 src := hne9
    have he : BI #[] = [] := rfl
    have hAd : InA [(2 : Int) ^ Int.toNat 31 + 5] := fun x hx => by rw [List.mem_singleton.mp hx]; decide
    try k_fold
    k_steps
    · ((try with_reducible refine hnx _ ?_); exact hret _ _ _ _ _ (⟨_, rfl, hS9, rfl⟩) (by first | assumption | exact KtsTurn.refl) (by k_asm) (by first | k_asm | exact news_subL (by assumption) (by k_extra "sub") | exact news_sub (by assumption) (by intro p hp; (try simp only [List.mem_cons, List.mem_append] at hp ⊢); grind)))
    · exact absurd (by assumption : 4 ≤ ([3, 0, 0, 0, 0] : List Int).getD 0 0) (by decide)
end law_records_c_
theorem law_records_c (w : World) (src : Addr) (o : Obj) (rest : Led) (ho : SrcO o) (hne : ∀ p ∈ rest, p.1 ≠ src)  : ConS w (.ref 452) [.ref src] 14 ((src, o) :: rest) (fun r N => ∃ o', N = (src, o') :: rest ∧ SrcO o' ∧ r = .bool true) := by
  refine' BodKS.con ?ho ?hcd ?hb ?hq ?hloc ?hco ?hgen ?hk ?hcell ?hD (fun F9 => @wit_all _ (fra0, wrl0, 0, listOf #[] 0, []) law_records_c_S (by with_unfolding_all exact law_records_c_.run) (F9, w, src, o, rest) ho hne); (case ho => k_is); (case hcd => k_is); (case hb => first | (dsimp only [List.map, List.zip, List.zipWith]; done) | (dsimp only [List.map, List.zip, List.zipWith]; exact rfl)); (case hq => first | exact fun _ _ => BindsTo.of_eq rfl | (intro s7 X7; exact binds_K X7 rfl (by k_is) rfl rfl rfl)); (case hloc => exact locs rfl); (case hco => exact rfl); (case hgen => exact rfl); (case hk => exact rfl); (case hcell => decide); (case hD => decide)

theorem law_records_c_k (w : World) (src : Addr) (o : Obj) (rest : Led) (ho : SrcO o) (hne : ∀ p ∈ rest, p.1 ≠ src)  :
   KonS w (.ref 452) [.ref src] 14 ((src, o) :: rest) (fun K9 => ∀ o', (SrcO o') → K9 (.bool true) ((src, o') :: rest))  :=
  ConS.kon (law_records_c w src o rest ho hne) (by
    rintro K9 g9 r9 N9 ⟨v0, rfl, v1, rfl⟩
    exact g9 v0 v1) (fun K9 K9' h9 g9 v0 v1 => h9 _ _ (g9 v0 v1))
theorem reg_p24_1 : True := by
  k_with "call ref" => (k_here; (with_reducible show wpAny _ _ (call (Value.ref 452) _) _ _ _); k_dflt (refine' KonST.go ?_ ?_ ?_ ?_ ?_ ?_ ?_ ?_ ?_ ?_ ?_ ?_ ?_ ?_; walk_at "side 1"; (try any_goals ((with_reducible show Frag.In _ _); assumption)); (try any_goals ((with_reducible show Top _ _ _ _ _ _); assumption)); (any_goals ((with_reducible show KtsDicts _ _); assumption)); (any_goals ((with_reducible show KtsTurn _ _ _); first | assumption | exact KtsTurn.refl)); (any_goals ((with_reducible show KonS _ _ _ _ _ _); exact (law_records_c_k _ _ _ _ (by assumption) (by k_all)))); walk_at "side 9"); intro _ _ _ _ _ _ _ _ _ _ _ _)
  k_with "call ref" => (k_here; (with_reducible show wpAny _ _ (call (Value.ref 452) _) _ _ _); k_dflt (refine' KonST.top ?_ ?_ ?_ ?_ ?_ ?_ ?_ ?_ ?_ ?_ ?_ ?_; walk_at "side 1"; (try any_goals ((with_reducible show Frag.In _ _); assumption)); (try any_goals ((with_reducible show Top _ _ _ _ _ _); assumption)); (any_goals ((with_reducible show KonS _ _ _ _ _ _); exact (law_records_c_k _ _ _ _ (by assumption) (by k_all)))); walk_at "side 9"); intro _ _ _ _ _ _)
  trivial

/-! b''.join of one or two bytes -/
section
open PySem.Calls PySem.Builtin
theorem take_eq {b : Array UInt8} {t : Tok} {id : String} : Bytes.takeBufferQuiet? id (.bytes b t) 0 = pure (some (b, none)) := by
  unfold Bytes.takeBufferQuiet? Bytes.takeBuffer?
  rw [KBy.special_eq KBy.look_buffer, KBy.own_buffer]
  rw [show (0 == Bytes.fullReadOnly) = false from by decide]
  rw [KBy.buffer_eq]
  kernel_rfl
theorem join_meets1 {sep b : Array UInt8} {t u : Tok} {l : Addr} {n : Nat} : Meets (Builtin.«bytes.join» ⟨[.bytes sep t, .ref l], []⟩) (fun _ R s => s.heap.get? l = some (listOf #[.bytes b u] n) ∧ R (.ok (.ret (.bytes b u))) s) := by
  refine .of_wp fun prog w A R s hS => ?_
  obtain ⟨hl, hR⟩ := hS
  have hT : s.TypeIs (.ref l) "list" := ⟨_, hl, rfl⟩
  have hb : s.TypeIs (.bytes b u) "bytes" := typeIs_bytes _ _ _
  unfold Builtin.«bytes.join» Bytes.joinM
  wp_walk
  exact ⟨_, rfl, hR⟩
theorem wpAny_range2 {M : Model} {A : Around} {E : Value → Shared → Prop} {s : Shared} {β : Type} {f : Nat → β → Sem (ForInStep β)} {b : β} {Q : β → Shared → Prop}
    (h : wpAny M A (f 0 b) (fun r s => match r with | .done b => Q b s | .yield b => wpAny M A (f 1 b) (fun r s => match r with | .done b => Q b s | .yield b => Q b s) E s) E s) : wpAny M A (forIn [:2] b f) Q E s := by
  rw [Std.Legacy.Range.forIn_eq_forIn_range']
  show wpAny M A (forIn [0, 1] b f) Q E s
  rw [List.forIn_cons]
  refine wpAny_bind (wpAny_mono h (fun r s' h' => ?_) fun _ _ e => e)
  cases r with
  | done b => exact wpAny_pure h'
  | yield b =>
    dsimp only at h' ⊢
    rw [List.forIn_cons]
    refine wpAny_bind (wpAny_mono h' (fun r s' h' => ?_) fun _ _ e => e)
    cases r with
    | done b => exact wpAny_pure h'
    | yield b => exact wpAny_pure h'
theorem join_meets2 {sep b c : Array UInt8} {t u v : Tok} {l : Addr} {n : Nat} (hz : sep.size + b.size + c.size ≤ 1000) : Meets (Builtin.«bytes.join» ⟨[.bytes sep t, .ref l], []⟩) (fun _ R s => s.heap.get? l = some (listOf #[.bytes b u, .bytes c v] n) ∧
    ∀ t' k, R (.ok (.ret (.bytes (Bytes.joined sep [b, c]) t'))) { s with toks := k }) := by
  refine .of_wp fun prog w A R s hS => ?_
  obtain ⟨hl, hR⟩ := hS
  have hT : s.TypeIs (.ref l) "list" := ⟨_, hl, rfl⟩
  have hb : s.TypeIs (.bytes b u) "bytes" := typeIs_bytes _ _ _
  have h1 : ∀ id, Bytes.takeBufferQuiet? id (.bytes b u) 0 = pure (some (b, none)) := fun _ => take_eq
  have h2 : ∀ id, Bytes.takeBufferQuiet? id (.bytes c v) 0 = pure (some (c, none)) := fun _ => take_eq
  unfold Builtin.«bytes.join» Bytes.joinM
  wp_walk
  refine wpAny_range2 ?_
  dsimp only
  refine wpAny_bind (wpAny_seqItems hl rfl ?_)
  dsimp only
  refine wpAny_bind (wpAny_holding (wpAny_of_eq (h1 _) ?_))
  dsimp only
  refine wpAny_bind (wpAny_seqItems hl rfl ?_)
  refine wpAny_pure ?_
  dsimp only
  refine wpAny_bind (wpAny_seqItems hl rfl ?_)
  dsimp only
  refine wpAny_bind (wpAny_holding (wpAny_of_eq (h2 _) ?_))
  dsimp only
  refine wpAny_bind (wpAny_seqItems hl rfl ?_)
  refine wpAny_pure ?_
  dsimp only
  wp_walk
  rw [if_neg (by
    unfold Bytes.tooLong
    rw [sizeLine_eq]
    simp
    lia)]
  refine wpAny_bind ?_
  show wpAny _ _ (mkBytes _) _ _ _
  unfold mkBytes
  rw [if_neg (by
    rw [sizeLine_eq]
    unfold Bytes.joined
    simp
    lia)]
  wp_walk
  exact ⟨_, rfl, hR _ _⟩
theorem slot_bytes_join : Slot "bytes" "join" "bytes.join" :=
  .of (owner := "bytes") (n := "join") (by rw [typeLookup_type, builtinLookup_eq_fast]; kernel_rfl) (by decide +kernel) (by decide +kernel) (by decide +kernel)
    (by first | exact .inl (by decide +kernel) | exact .inr (by decide +kernel)) (by rw [isSubtype_type]; kernel_rfl)
theorem type_bytes_join : typeOf (.builtin "bytes.join") = pure (.type "method_descriptor") := by show builtinType _ = _; rw [builtinType_eq_fast]; kernel_rfl
theorem entry_bytes_join : entryFor table "bytes.join" = some Builtin.«bytes.join» := entryFor_of_tree (by kernel_rfl)
theorem args_bytes_join_2 (a b : Value) : argsOk "bytes.join" ⟨[a, b], []⟩ := by
  unfold argsOk; rw [signature?_of (id := "bytes.join") (n := ['n', 'i', 'o', 'j']) (o := ['s', 'e', 't', 'y', 'b']) (by kernel_rfl) FB.owner_bytes]; kernel_rfl
section
variable {prog : Program} {w : World} {A : Around} {E : Value → Shared → Prop} {s : Shared} {g : Heap} {L : Addr} {news : Led} {Q : Value → Shared → Prop}
theorem join_method {M : Model} {b : Array UInt8} {t : Tok} {pl : Sem Bool} {Q : Value × List Value → Shared → Prop} (h : Q (.builtin "bytes.join", [.bytes b t]) s) : wpAny M A (getMethod (.bytes b t) "join" pl) Q E s := by
  with_reducible exact KBd.method_of (.bytes b t) (typeIs_bytes _ _ _) slot_bytes_join type_bytes_join KBd.noRef h
theorem joined_two {b c : Array UInt8} {x y : List Int} (hb : BI b = x) (hc : BI c = y) : BI (Bytes.joined #[] [b, c]) = x ++ y := by
  subst hb hc
  unfold Bytes.joined
  simp [KBw.bInts]
theorem b_join1 {sep b : Array UInt8} {t u : Tok} {l : Addr} {n : Nat} {x : List Int} (N : News g L s.heap news) (hm : (l, listOf #[.bytes b u] n) ∈ news) (hb : BI b = x) (h : ∀ b' t', BI b' = x → Q (.bytes b' t') s) :
    wpAny (model prog w) A (call (.builtin "bytes.join") [.bytes sep t, .ref l]) Q E s :=
  call_meets slot_bytes_join (typeIs_bytes _ _ _) entry_bytes_join (args_bytes_join_2 _ _) join_meets1 ⟨(N _ hm).1, h _ _ hb⟩
theorem b_join2 {b c : Array UInt8} {t u v : Tok} {l : Addr} {n : Nat} {x y : List Int} (N : News g L s.heap news) (hm : (l, listOf #[.bytes b u, .bytes c v] n) ∈ news) (hb : BI b = x) (hc : BI c = y) (hz : x.length + y.length ≤ 1000) (h : ∀ b' t' k, BI b' = x ++ y → Q (.bytes b' t') { s with toks := k }) :
    wpAny (model prog w) A (call (.builtin "bytes.join") [.bytes #[] t, .ref l]) Q E s :=
  call_meets slot_bytes_join (typeIs_bytes _ _ _) entry_bytes_join (args_bytes_join_2 _ _) (join_meets2 (by
    subst hb hc
    simp only [KBw.bInts, List.length_map, Array.length_toList] at hz
    simp
    lia)) ⟨(N _ hm).1, fun t' k => h _ _ _ (joined_two hb hc)⟩
end
end
theorem reg_p24a_0 : True := by
  k_with "getMethod bytes" => (k_here; (with_reducible refine join_method ?_))
  trivial

/-! a list comprehension over a list whose name is a cell -/
section
open LCg
variable {prog : Program} {w : World} {A : Around} {E : Value → Shared → Prop} {s : Shared} {h₀ : Heap} {L : Addr} {m : Str → Option Value} {env : Env}
theorem newEnv_cell {M : Model} {scope : Scope} {x : Str} {globals : Addr} {qual : Str} {Q : Env → Shared → Prop} (hcs : ∀ n, cellsFrom n scope.names [] = [(x, n)])
    (h : ∀ h', h'.Ns s.heap.objs.size (fun _ => none) → h'.IsCell (s.heap.objs.size + 1) none → (∀ b o, s.heap.get? b = some o → h'.get? b = some o) →
      Q (newEnv scope s.heap.objs.size globals [(x, s.heap.objs.size + 1)] qual none .none (some env) builtinsNs) { s with heap := h' }) :
    wpAny M A (newFunctionEnv scope globals [] [] qual none .none (some env)) Q E s := by
  simp only [newFunctionEnv, Option.isSome_some, if_true]
  refine wpAny_bind (wpAny_alloc ?_)
  refine wpAny_bind (wpAny_layCells _ (fun name kind cells => by cases hkc : kind == NameKind.cell <;> simp [hkc]) _ _ _ _ ?_)
  have ok := cellsFrom_ok scope.names (s.heap.push { cls := .type "dict", data := .dict #[] }) (s.heap.objs.size + 1) [] ⟨fun _ _ hm => (nomatch hm), List.Pairwise.nil⟩ (by rw [Heap.size_push]; exact Nat.le_refl _)
  rw [Heap.size_push, hcs] at ok
  rw [show ({ s with heap := s.heap.push { cls := .type "dict", data := .dict #[] } } : Shared).heap.objs.size = s.heap.objs.size + 1 from Heap.size_push .., hcs]
  refine wpAny_bind ?_
  rw [List.forIn_nil]
  refine wpAny_pure (wpAny_pure ?_)
  exact h _ ((Heap.Ns.new s.heap (.type "dict")).keeps (pushCells_keeps _ _)) (ok.empty x _ (.head _)).1 fun b o e => pushCells_keeps _ _ b o (Heap.get?_push_of_some _ e)
inductive CInvK {σ : Type} (h₀ : Heap) (L : Addr) (m : Str → Option Value) (s : Shared) (ax I C D K : Addr) (vs : List Value) (L₀ : σ → Led) (P : Nat → List Value → σ → Prop) : Nat → Shared → Prop
  | mk (h' : Heap) (tk i : Nat) (ys : List Value) (m' : Str → Option Value) (c : σ) (oK : Obj) (vK : Option Value) : i ≤ vs.toArray.size → ys.length ≤ i → (h'.IsListIter I ax i ∧ h'.IsList ax vs.toArray) → Fr h₀ L h' m → h'.Ns C m' → oK.data = .cell vK → News h₀ L h' ((D, lst ys) :: (K, oK) :: L₀ c) →
      (∀ p ∈ L₀ c, p.1 ≠ I ∧ p.1 ≠ C ∧ p.1 ≠ D ∧ p.1 ≠ K) → P i ys c → CInvK h₀ L m s ax I C D K vs L₀ P (vs.toArray.size + 1 - i) { s with heap := h', toks := tk }
theorem comp_cell {σ : Type} {ax : Addr} {lo : Obj} {vs : List Value} {nn : Nat} {elt iter : Expr} {x : Str} {px : Pos} {scope : Scope} {pos : Pos} {Q : Value → Shared → Prop} (L₀ : σ → Led) (P : Nat → List Value → σ → Prop) (c₀ : σ)
    (hh : A.handled = none) (F : Fr h₀ L s.heap m) (N : News h₀ L s.heap (L₀ c₀)) (hm : ∀ c, (ax, lo) ∈ L₀ c) (hc : lo.cls = .type "list") (hd : lo.data = .seq vs.toArray nn) (hsz : vs.length ≤ sizeLine)
    (hcs : ∀ n, cellsFrom n scope.names [] = [(x, n)]) (hx : (relabel scope env).names.lookup x = some .cell) (hkind : scope.kind = .function) (hP : P 0 [] c₀)
    (turn : ∀ (i : Nat) (v : Value) ys (c : σ) I oI C oC D K oK m₂ h tk E', vs[i]? = some v → P i ys c → NsObj oC m₂ → oK.data = .cell (some v) → Fr h₀ L h m → News h₀ L h ((I, oI) :: (C, oC) :: (D, LCg.lst ys) :: (K, oK) :: L₀ c) → (∀ p ∈ (K, oK) :: L₀ c, p.1 ≠ I ∧ p.1 ≠ C ∧ p.1 ≠ D) → (∀ p ∈ L₀ c, p.1 ≠ K) → ((@Ne Nat I C) ∧ (@Ne Nat I D) ∧ (@Ne Nat C D)) →
      wpAny (model prog w) A (eval elt (compEnvC scope [(x, K)] C env)) (fun y => CEnd h₀ L m { s with heap := h, toks := tk } I oI C oC D (LCg.lst ys) (fun nx => ∃ c', nx = (K, oK) :: L₀ c' ∧ (∀ p ∈ L₀ c', p.1 ≠ K) ∧ P (i + 1) (ys ++ [y]) c')) E' { s with heap := h, toks := tk })
    (done : ∀ D ys c h tk, P vs.length ys c → Fr h₀ L h m → News h₀ L h ((D, LCg.lst ys) :: L₀ c) → (∀ p ∈ L₀ c, p.1 ≠ D) → Q (.ref D) { s with heap := h, toks := tk }) :
    CompGo prog w A env E elt (.Name x px) iter [] scope [] pos Q (.ref ax) s := by
  have hax := N _ (hm c₀)
  have hlt : ax < s.heap.objs.size := Heap.lt_size hax.1
  have sz : vs.toArray.size = vs.length := by simp
  have hl : s.heap.IsList ax vs.toArray := ⟨lo, hax.1, hc, nn, hd⟩
  refine wpAny_pyIter_list hl ?_
  have up : ∀ b o, s.heap.get? b = some o → (s.heap.push { cls := .type "list_iterator", data := .fields #[.ref ax, .int 0 0] }).get? b = some o := fun b o e => Heap.get?_push_of_some _ e
  have W := Walks.list (prog := prog) (w := w) hh s.heap.objs.size ax (Nat.ne_of_lt hlt) vs.toArray
  have hst := (⟨⟨_, Heap.get?_push_size _ rfl, rfl, rfl⟩, hl.push _⟩ : (s.heap.push { cls := .type "list_iterator", data := .fields #[.ref ax, .int 0 0] }).IsListIter s.heap.objs.size ax 0 ∧ (s.heap.push { cls := .type "list_iterator", data := .fields #[.ref ax, .int 0 0] }).IsList ax vs.toArray)
  have F₂ := F.keeps up
  have N₂ : News h₀ L (s.heap.push { cls := .type "list_iterator", data := .fields #[.ref ax, .int 0 0] }) (L₀ c₀) := fun p hp => ⟨up _ _ (N p hp).1, (N p hp).2⟩
  have hIL : L ≠ s.heap.objs.size := Nat.ne_of_lt F.ns.lt
  have hI₀ : h₀.get? s.heap.objs.size = none := next_is_new F
  have offI : ∀ p ∈ L₀ c₀, p.1 ≠ s.heap.objs.size := fun p hp => Nat.ne_of_lt (Heap.lt_size (N p hp).1)
  have hS1 : (s.heap.push { cls := .type "list_iterator", data := .fields #[.ref ax, .int 0 0] }).objs.size = s.heap.objs.size + 1 := Heap.size_push ..
  obtain ⟨H1, hH1⟩ : ∃ H1, H1 = s.heap.push { cls := .type "list_iterator", data := .fields #[.ref ax, .int 0 0] } := ⟨_, rfl⟩
  have hlim : True := trivial
  rw [← hH1] at hst F₂ N₂ hS1 up ⊢
  obtain ⟨I, hI⟩ : ∃ I, I = s.heap.objs.size := ⟨_, rfl⟩
  rw [← hI] at W hst hIL hI₀ offI hS1 ⊢
  refine wpAny_newObj_type (newEnv_cell hcs fun h₁ hns₁ hcell₁ hup₁ => ?_)
  dsimp only at hns₁ hcell₁ hup₁ ⊢
  generalize hH2 : H1.push { cls := .type "list", dict := none, data := .seq ([] : List Value).toArray } = H2 at hns₁ hcell₁ hup₁ ⊢
  have hC : H2.objs.size = H1.objs.size + 1 := by rw [← hH2, Heap.size_push]
  obtain ⟨D, hD⟩ : ∃ D, D = H1.objs.size := ⟨_, rfl⟩
  obtain ⟨C, hCe⟩ : ∃ C, C = H2.objs.size := ⟨_, rfl⟩
  obtain ⟨K, hK⟩ : ∃ K, K = H2.objs.size + 1 := ⟨_, rfl⟩
  rw [← hCe] at hns₁
  rw [← hK] at hcell₁
  have eCD : C = D + 1 := by rw [hCe, hC, hD]
  have eKC : K = C + 1 := by rw [hK, hCe]
  have eID : I + 1 = D := by rw [hD, hS1]
  have below : ∀ b, b < H1.objs.size → b ≠ D ∧ b ≠ C ∧ b ≠ K := fun b hb => by
    rw [← hD] at hb
    have h0 : b < D := hb
    exact ⟨Nat.ne_of_lt h0, by rw [eCD]; exact Nat.ne_of_lt (Nat.lt_succ_of_lt h0), by rw [eKC, eCD]; exact Nat.ne_of_lt (Nat.lt_succ_of_lt (Nat.lt_succ_of_lt h0))⟩
  have nDC : D ≠ C := by rw [eCD]; exact Nat.ne_of_lt (Nat.lt_succ_self _)
  have nDK : D ≠ K := by rw [eKC, eCD]; exact Nat.ne_of_lt (Nat.lt_succ_of_lt (Nat.lt_succ_self _))
  have nCK : C ≠ K := by rw [eKC]; exact Nat.ne_of_lt (Nat.lt_succ_self _)
  have hIlt : I < H1.objs.size := by rw [hS1]; exact Nat.lt_succ_self _
  have hLlt : L < H1.objs.size := F₂.ns.lt
  have haxlt : ax < H1.objs.size := Nat.lt_trans hlt (by rw [← hI]; exact hIlt)
  obtain ⟨nID, nIC, nIK⟩ := below I hIlt
  obtain ⟨nLD, nLC, nLK⟩ := below L hLlt
  obtain ⟨nAD, nAC, nAK⟩ := below ax haxlt
  have old : ∀ b o, H1.get? b = some o → h₁.get? b = some o := fun b o e => hup₁ b o (hH2 ▸ Heap.get?_push_of_some _ e)
  have hacc : h₁.get? D = some (lst []) := hup₁ _ _ (by rw [hD, ← hH2]; exact Heap.get?_push_size _ rfl)
  have hst₁ := W.frame _ _ _ hst fun b _ o e => old b o e
  have fresh₀ : ∀ a, H1.objs.size ≤ a → h₀.get? a = none := fun a ha => by
    cases e : h₀.get? a with
    | none => rfl
    | some o' => exact absurd (Heap.lt_size (F₂.keep a o' e)) (Nat.not_lt.mpr ha)
  have hD₀ : h₀.get? D = none := fresh₀ _ (by rw [hD]; exact Nat.le_refl _)
  have hC₀ : h₀.get? C = none := fresh₀ _ (by rw [eCD, hD]; exact Nat.le_succ _)
  have hK₀ : h₀.get? K = none := fresh₀ _ (by rw [eKC, eCD, hD]; exact Nat.le_succ_of_le (Nat.le_succ _))
  have off₀ : ∀ p ∈ L₀ c₀, p.1 ≠ I ∧ p.1 ≠ C ∧ p.1 ≠ D ∧ p.1 ≠ K := fun p hp => by
    have z := below _ (Heap.lt_size (N₂ p hp).1)
    exact ⟨offI p hp, z.2.1, z.1, z.2.2⟩
  have loop : ∀ s₃ : Shared, s₃ = { s with heap := h₁ } →
      codeAny (model prog w) A (.compLoop (.ListComp elt [⟨.Name x px, iter, [], 0⟩] scope pos) 0 (.ref I) (.ref D) (compEnvC scope [(x, K)] C env))
        (compPost (model prog w) A E none Q (.ref D) C) s₃ := by
    rintro s₃ rfl
    refine compLoop_G
      (CInvK h₀ L m s ax I C D K vs L₀ P) ?_ (vs.toArray.size + 1) ?init
    case init =>
      refine hcell₁.elim fun oK eK => ?_
      exact .mk h₁ _ 0 [] _ c₀ oK _ (Nat.zero_le _) (Nat.le_refl _) hst₁ (F₂.keeps old) hns₁ eK.2 (news_cons hacc ⟨Ne.symm nLD, hD₀⟩ (news_cons eK.1 ⟨Ne.symm nLK, hK₀⟩ fun p hp => ⟨old _ _ (N₂ p hp).1, (N₂ p hp).2⟩)) off₀ hP
    · intro k s' hI9
      induction hI9 with | mk h' tk i ys m' c oK vK hi hyl hst' F' hn' hdK N' off3 hP' => ?_
      have nK := N' (K, oK) (.tail _ (.head _))
      have nD := N' (D, lst ys) (.head _)
      by_cases hlt : i < vs.toArray.size
      · refine W.item i _ _ _ hlt hst' fun v h₂ tk₂ hPv hst₂ hk₂ => ?_
        dsimp only at hst₂ hk₂ hPv ⊢
        have hv : vs[i]? = some v := by simpa using hPv
        have hk : ∀ b o, b ≠ I → h'.get? b = some o → h₂.get? b = some o := fun b o hb e => hk₂ b o (by simpa using hb) e
        refine wpAny_of_eq (a := ()) (by rfl) ?_
        refine wpAny_assign_Name (wpAny_storeName_cell (c := K) (v₀ := vK) hkind hx (by show List.lookup x [(x, K)] = some K; simp) ⟨oK, hk _ _ (Ne.symm nIK) nK.1, hdK⟩ fun h₃ hc₃ hs₃ => ?_)
        refine hc₃.elim fun oK₃ eK9 => ?_
        have eK₃ := eK9.1
        have dK₃ := eK9.2
        clear eK9
        have hst₃ : h₃.IsListIter I ax (i + 1) ∧ h₃.IsList ax vs.toArray := ⟨hst₂.1.extBut hs₃.extBut nIK, hst₂.2.extBut hs₃.extBut nAK⟩
        have hbig : ∀ b o, b ≠ I → b ≠ K → h'.get? b = some o → h₃.get? b = some o := fun b o hb hb2 e => hs₃.extBut b o hb2 (hk b o hb e)
        refine hst₃.1.elim fun oI eI9 => ?_
        have eI := eI9.1
        have eI2 := eI9.2
        have hn₃ : h₃.Ns C m' := hn'.at' fun o e => hbig _ o (Ne.symm nIC) nCK e
        refine (ns_obj hn₃).elim fun oC hoC9 => ?_
        have heC := hoC9.1
        have hoC := hoC9.2
        clear hoC9
        have F₂' := LCg.fr_but F' hk₂ hIL hI₀
        have F₃ : Fr h₀ L h₃ m := F₂'.change hs₃ (Ne.symm nLK) hK₀
        have N₃ : News h₀ L h₃ ((I, oI) :: (C, oC) :: (D, lst ys) :: (K, oK₃) :: L₀ c) :=
          news_cons eI ⟨Ne.symm hIL, hI₀⟩ (news_cons heC ⟨Ne.symm nLC, hC₀⟩ (news_cons (hbig _ _ (Ne.symm nID) nDK nD.1) nD.2 (news_cons eK₃ nK.2 fun p hp => ⟨hbig _ _ (off3 p hp).1 (off3 p hp).2.2.2 (N' p (.tail _ (.tail _ hp))).1, (N' p (.tail _ (.tail _ hp))).2⟩)))
        have T := turn i v ys c I oI C oC D K oK₃ m' h₃ tk₂ (notedBy (model prog w) A (compEnvC scope [(x, K)] C env) fun e s' => compPost (model prog w) A E none Q (.ref D) C (.error e) s') hv hP' hoC dK₃ F₃ N₃ (List.forall_mem_cons.mpr ⟨⟨Ne.symm nIK, Ne.symm nCK, Ne.symm nDK⟩, fun p hp => ⟨(off3 p hp).1, (off3 p hp).2.1, (off3 p hp).2.2.1⟩⟩) (fun p hp => (off3 p hp).2.2.2) ⟨nIC, nID, Ne.symm nDC⟩
        refine wpAny_mono T (fun y s₅ q => ?_) fun _ _ e => e
        induction q with | mk h₄ tk₄ news₄ all F₄ N₄ hsub off₄ hJ => ?_
        refine hJ.elim fun c' hJ' => ?_
        have e9 := hJ'.1
        have hKo := hJ'.2.1
        have hP₄ := hJ'.2.2
        rw [e9] at hsub off₄
        clear hJ hJ'
        have M₄ : News h₀ L h₄ _ := fun p hp => N₄ p (hsub p hp)
        have zI := (M₄ (I, oI) (.head _)).1
        have zC := (M₄ (C, oC) (.tail _ (.head _))).1
        have zD := (M₄ (D, lst ys) (.tail _ (.tail _ (.head _)))).1
        have zK := M₄ (K, oK₃) (.tail _ (.tail _ (.tail _ (.head _))))
        have N₄' : News h₀ L h₄ (L₀ c') := fun p hp => M₄ p (.tail _ (.tail _ (.tail _ (.tail _ hp))))
        have zA := (N₄' _ (hm c')).1
        dsimp only at zI zC zD zK zA
        refine append_at (hsz := by show ys.toArray.size ≤ sizeLine; rw [List.size_toArray]; rw [sz] at hi; exact Nat.le_trans (Nat.le_trans hyl hi) hsz) zD fun h₅ hs₅ hD₅ => ?_
        have up5 : ∀ b o, b ≠ D → h₄.get? b = some o → h₅.get? b = some o := fun b o hb e => hs₅.extBut b o hb e
        have off5 : ∀ p ∈ L₀ c', p.1 ≠ I ∧ p.1 ≠ C ∧ p.1 ≠ D := fun p hp => off₄ p (.tail _ hp)
        refine ⟨vs.toArray.size + 1 - (i + 1), dec9 hlt, .mk h₅ tk₄ (i + 1) (ys ++ [y]) _ c' oK₃ _ hlt (by rw [List.length_append, List.length_singleton]; exact Nat.succ_le_succ hyl)
          ⟨⟨oI, up5 _ _ nID zI, eI2⟩, ⟨lo, up5 _ _ nAD zA, hc, nn, hd⟩⟩ (F₄.change hs₅ (Ne.symm nLD) hD₀) ((hoC.ns zC).sameBut hs₅ (Ne.symm nDC)) dK₃ (news_cons (hD₅.trans (congrArg some (lst_snoc ys y))) ⟨Ne.symm nLD, hD₀⟩ (news_cons (up5 _ _ (Ne.symm nDK) zK.1) zK.2 fun p hp => ⟨up5 _ _ (off5 p hp).2.2 (N₄' p hp).1, (N₄' p hp).2⟩)) (fun p hp => ⟨(off5 p hp).1, (off5 p hp).2.1, (off5 p hp).2.2, hKo p hp⟩) hP₄⟩
      · have ei : i = vs.toArray.size := Nat.le_antisymm hi (Nat.not_lt.mp hlt)
        rw [ei] at hst' hP'
        refine W.done _ _ _ hst' fun h₂ tk₂ hk₂ => ?_
        dsimp only at hk₂ ⊢
        have hk : ∀ b o, b ≠ I → h'.get? b = some o → h₂.get? b = some o := fun b o hb e => hk₂ b o (by simpa using hb) e
        rw [sz] at hP'
        refine ⟨m', hn'.at' fun o e => hk _ o (Ne.symm nIC) e, fun h'' hs'' => done D ys c h'' tk₂ hP' ((LCg.fr_but F' hk₂ hIL hI₀).change hs'' (Ne.symm nLC) hC₀) (news_cons (hs''.extBut _ _ nDC (hk _ _ (Ne.symm nID) nD.1)) nD.2 fun p hp => ⟨hs''.extBut _ _ (off3 p hp).2.1 (hk _ _ (off3 p hp).1 (N' p (.tail _ (.tail _ hp))).1), (N' p (.tail _ (.tail _ hp))).2⟩) fun p hp => (off3 p hp).2.2.1⟩
  subst hK
  subst hCe
  subst hD
  exact codeAny_compStart_list (loop _ rfl) (W.self 0 _ _ _ hst₁ (loop _ rfl))
end

/-! a comprehension that a name is set to -/
section
open LCg
variable {prog : Program} {w : World} {A : Around} {E : Value → Shared → Prop} {s : Shared} {h₀ : Heap} {L : Addr} {m : Str → Option Value} {env : Env}
noncomputable def CompGoU (prog : Program) (w : World) (A : Around) (env : Env) (E : Value → Shared → Prop) (elt target iter : Expr) (ifs : List Expr) (scope : Scope) (cl : List (Str × Addr)) (pos : Pos) (y : Str) (py : Pos) (Q : Flow → Shared → Prop) (xv : Value) (s₁ : Shared) : Prop :=
  wpAny (model prog w) A (pyIter xv) (fun it s₂ => wpAny (model prog w) A (newList []) (fun acc s₃ => wpAny (model prog w) A (newFunctionEnv scope env.globals cl [] env.qual none .none (some env)) (fun cenv s₄ =>
    codeAny (model prog w) A (.compStart (.ListComp elt [⟨target, iter, ifs, 0⟩] scope pos) 0 it acc { cenv with scope := relabel scope env }) (compPost (model prog w) A E (some (assign (.Name y py) env)) (fun _ s' => Q .next s') acc cenv.locals) s₄) E s₃) E s₂) E s₁
theorem Assign_ListComp_G {elt target iter : Expr} {ifs : List Expr} {y : Str} {py : Pos} {scope : Scope} {cl : List (Str × Addr)} {pos spos : Pos} {Q : Flow → Shared → Prop}
    (hsw : swapsWith (.ListComp elt [⟨target, iter, ifs, 0⟩] scope pos) (some (.Name y py)) spos.line env = pure true)
    (hclos : closureFor scope env = pure cl) (hkind : scope.kind = .function) (hnames : ∀ y ∈ scope.names, y.2 = .local → scope.names.lookup y.1 = some .local)
    (h : wpAny (model prog w) A (eval iter env) (CompGoU prog w A env E elt target iter ifs scope cl pos y py Q) E s)
    (hs : ∀ x, foldedSetIterable iter env x = pure x := by intro _; rfl) :
    wpAny (model prog w) A (exec (.Assign [.Name y py] (.ListComp elt [⟨target, iter, ifs, 0⟩] scope pos) spos) env) Q E s := by
  rw [exec_Assign_Name_used _ _ _ _ hsw]
  refine wpAny_bind (wpAny_standAt (wpAny_bind ?_))
  show wpAny _ A (do let _ ← comprehension (.ListComp elt [⟨target, iter, ifs, 0⟩] scope pos) scope env _ (newList []) false (eval iter env) (some (assign (.Name y py) env))) _ _ s
  exact wpAny_bind (wpAny_mono (wpAny_comprehension_free (use := some (assign (.Name y py) env)) (Q := fun _ s' => Q .next s') rfl hs hclos hkind hnames h) (fun _ s' hq => wpAny_pure (wpAny_pure hq)) fun _ _ e => e)
theorem comp_rangeU {σ : Type} {r : Addr} {a₀ b₀ st : Int} {t₀ u₀ v₀ : Tok} {n : Nat} {elt iter : Expr} {x y : Str} {px py : Pos} {ifs : List Expr} {scope : Scope} {cl : List (Str × Addr)} {pos : Pos} {Q : Flow → Shared → Prop} (L₀ : σ → Led) (P : Nat → List Value → σ → Prop) (c₀ : σ)
    (hLe : env.locals = L) (hy : env.kindOf y = some .local) (hp : (env.scope.kind == .class || (env.scope.kind == .module && env.locals != env.globals)) = false)
    (hh : A.handled = none) (hr : IsRange s.heap r a₀ b₀ st t₀ u₀ v₀) (hsmall : Builtin.Range.small a₀ b₀ st = true) (hn : Builtin.Range.rangeSize a₀ b₀ st = (n : Int)) (F : Fr h₀ L s.heap m) (N : News h₀ L s.heap (L₀ c₀)) (hsz : n ≤ sizeLine)
    (hcell : ∀ y ∈ scope.names, y.2 ≠ .cell) (hkind : scope.kind = .function) (hx : scope.names.lookup x = some .local) (hP : P 0 [] c₀)
    (turn : ∀ i t ys c I oI C oC D m₂ h tk E', i < n → P i ys c → NsObj oC m₂ → m₂ x = some (.int (a₀ + (i : Int) * st) t) → Fr h₀ L h m → News h₀ L h ((I, oI) :: (C, oC) :: (D, LCg.lst ys) :: L₀ c) → (∀ p ∈ L₀ c, p.1 ≠ I ∧ p.1 ≠ C ∧ p.1 ≠ D) → ((@Ne Nat I C) ∧ (@Ne Nat I D) ∧ (@Ne Nat C D)) →
      CBody prog w A ifs elt (compEnvC scope cl C env) (fun y => CEnd h₀ L m { s with heap := h, toks := tk } I oI C oC D (LCg.lst ys) (fun nx => ∃ c', nx = L₀ c' ∧ P (i + 1) (ys ++ [y]) c'))
        (CEnd h₀ L m { s with heap := h, toks := tk } I oI C oC D (LCg.lst ys) (fun nx => ∃ c', nx = L₀ c' ∧ P (i + 1) ys c')) E' { s with heap := h, toks := tk })
    (done : ∀ D ys c h tk, P n ys c → Fr h₀ L h (fun z => if z = y then some (.ref D) else m z) → News h₀ L h ((D, LCg.lst ys) :: L₀ c) → (∀ p ∈ L₀ c, p.1 ≠ D) → Q .next { s with heap := h, toks := tk }) :
    CompGoU prog w A env E elt (.Name x px) iter ifs scope cl pos y py Q (.ref r) s := by
  subst hLe
  refine wpAny_pyIter_range hr hsmall ?_
  refine comp_core (I := s.heap.objs.size) L₀ P c₀ (Walks.range hh _ a₀ st n).bound hsz (fun i h st => ⟨_, st⟩) (fun i h h' o c st e e' N' => ?_) hcell hkind hh
    (by show IsRangeIter _ _ _ _ _; rw [hn]; simpa using Heap.get?_push_size _ rfl) (fun b hb => ?_) (F.keeps fun _ _ e => Heap.get?_push_of_some _ e) (fun p hp => ⟨Heap.get?_push_of_some _ (N p hp).1, (N p hp).2⟩) (Nat.ne_of_lt F.ns.lt) (next_is_new F) (fun p hp => Nat.ne_of_lt (Heap.lt_size (N p hp).1)) (fun i v c hv => .inl ⟨_, _, rfl, hx⟩) (.inl ⟨x, px, rfl⟩)
    (fun i v ys c oI C oC D m₂ h tk E' hv _ _ hP hn hb F' N' o3 ne => ?_) hP ?_
  · have st' : h.get? s.heap.objs.size = some _ := st
    rw [e] at st'; cases st'
    exact e'
  · rw [List.mem_singleton.mp hb]
    show s.heap.objs.size < (s.heap.push _).objs.size
    rw [Heap.size_push]; exact Nat.lt_succ_self _
  · obtain ⟨hi, t, rfl⟩ := hv
    exact turn i t ys c _ oI C oC D m₂ h tk E' hi hP hn hb F' N' o3 ne
  · intro D C h tk m' ys c F' N' o1 hn hC₀ hCL hCD offC hP'
    show wpAny _ A (assign (.Name y py) env (.ref D)) _ _ _
    refine wpAny_assign_Name (wpAny_storeName_local hy F'.ns (fun h₂ hn₂ hs₂ => ?_) hp)
    have hL₀ : h₀.get? env.locals = none := Heap.get?_none_of_le F'.above
    have F₂ : Fr h₀ env.locals h₂ (fun z => if z = y then some (.ref D) else m z) := ⟨hn₂, fun b o e => hs₂.extBut b o (fun q => by rw [q, hL₀] at e; cases e) (F'.keep b o e), F'.above⟩
    refine ⟨m', hn.sameBut hs₂ hCL, fun h'' hs'' => done D ys c h'' _ hP' (F₂.change hs'' hCL hC₀) (fun p hp => ?_) o1⟩
    have z : h₂.get? p.1 = some p.2 := hs₂.extBut _ _ (N' p hp).2.1 (N' p hp).1
    refine ⟨hs''.extBut _ _ ?_ z, (N' p hp).2⟩
    rcases List.mem_cons.mp hp with rfl | hp
    · exact Ne.symm hCD
    · exact offC p hp
end
theorem reg_p24c_0 : True := by
  k_with "exec Assign cons ListComp" => (k_here; k_dflt (refine Assign_ListComp_G (by with_unfolding_all rfl) (by with_unfolding_all rfl) (by rfl) (by decide) ?_); k_whole)
  trivial

/-! the way gone along: the contracts at its records -/
theorem flatW_cons (a : Int) (r : List Int) : flatW (a :: r) = w32 a ++ flatW r := rfl
theorem next_hi (w : World) (b : Array UInt8) (bt : TC) (as : List Int) (a : Int) (r : List Int) (ad : Int) (ta : TC) (news : Led) (hb : BI b = RW as (flatW (a :: r))) (hl : as.length + (r.length + 1) ≤ 2) (h0 : 0 ≤ a) (h1 : a < 4294967296) :
   Con w (.ref 344) [.bytes b bt, .int ad ta] 9 news (fun x N => ∃ ax t1 b1 t2, x = .ref ax ∧ N = (ax, Obj.mk (.type "tuple") none (.seq #[.int a t1, .bytes b1 t2]) #[]) :: news ∧ BI b1 = RW (as ++ [ad]) (flatW r) ∧ ∀ p ∈ news, p.1 < ax) := by
  have hlen : (RW as (flatW (a :: r))).length = 1 + 4 * as.length + 4 * (r.length + 1) := by rw [RW_len, flatW_len, List.length_cons]
  refine (next_on_way_c w b bt _ ad ta news hb (by lia) (RW_good _ _)).mono ?_
  rintro x N (⟨h, _, _⟩ | ⟨_, ax, t1, b1, t2, rfl, rfl, hR, l1⟩)
  · rw [RW_head, hlen] at h
    lia
  · refine ⟨ax, t1, b1, t2, rfl, ?_, ?_, l1⟩
    · rw [g32_next h0 h1]
    · rw [hR, rec_step (by rw [flatW_cons, List.length_append, w32_len]; lia)]
      rfl
theorem next_lo (w : World) (b : Array UInt8) (bt : TC) (as : List Int) (ad : Int) (ta : TC) (news : Led) (hb : BI b = RW as (flatW [])) (hl : as.length ≤ 2) :
   Con w (.ref 344) [.bytes b bt, .int ad ta] 9 news (fun x N => N = news ∧ x = .none) := by
  have hlen : (RW as (flatW [])).length = 1 + 4 * as.length := by rw [RW_len]; rfl
  refine (next_on_way_c w b bt _ ad ta news hb (by lia) (RW_good _ _)).mono ?_
  rintro x N (⟨_, h1, h2⟩ | ⟨h, _⟩)
  · exact ⟨h2, h1⟩
  · rw [RW_head, hlen] at h
    lia
theorem b_joinW {prog : Program} {w : World} {A : Around} {E : Value → Shared → Prop} {s : Shared} {g : Heap} {L : Addr} {news : Led} {Q : Value → Shared → Prop} {t : Tok} {l : Addr} {zs : List Value} {c : List (Array UInt8 × TC)} {as : List Int}
    (N : News g L s.heap news) (hm : (l, LCg.lst zs) ∈ news) (h1 : zs = c.map (fun q => .bytes q.1 q.2)) (h2 : c.map (fun q => BI q.1) = as.map w32) (hl : 1 ≤ as.length ∧ as.length ≤ 2) (h : ∀ b' t' k, BI b' = flatW as → Q (.bytes b' t') { s with toks := k }) :
    wpAny (model prog w) A (call (.builtin "bytes.join") [.bytes #[] t, .ref l]) Q E s := by
  match as, c, zs, h1, h2, hl with
  | [], _, _, _, _, hl => exact absurd hl.1 (by simp)
  | _ :: _ :: _ :: _, _, _, _, _, hl => exact absurd hl.2 (by simp)
  | [a1], [], _, _, h2, _ => exact absurd h2 (by simp)
  | [a1], _ :: _ :: _, _, _, h2, _ => exact absurd h2 (by simp)
  | [a1, a2], [], _, _, h2, _ => exact absurd h2 (by simp)
  | [a1, a2], [_], _, _, h2, _ => exact absurd h2 (by simp)
  | [a1, a2], _ :: _ :: _ :: _, _, _, h2, _ => exact absurd h2 (by simp)
  | [a1], [(b1, u1)], _, rfl, h2, _ =>
    simp only [List.map_cons, List.map_nil, List.cons.injEq, and_true] at h2
    exact b_join1 (x := w32 a1) N hm h2 fun b' t' e => h b' t' s.toks (e.trans (by simp [flatW]))
  | [a1, a2], [(b1, u1), (b2, u2)], _, rfl, h2, _ =>
    simp only [List.map_cons, List.map_nil, List.cons.injEq, and_true] at h2
    exact b_join2 (x := w32 a1) (y := w32 a2) N hm h2.1 h2.2 (by rw [w32_len, w32_len]; lia) fun b' t' k e => h b' t' k (e.trans (by simp [flatW]))
theorem next_hi_k (w : World) (b : Array UInt8) (bt : TC) (as : List Int) (a : Int) (r : List Int) (ad : Int) (ta : TC) (news : Led) (hb : BI b = RW as (flatW (a :: r))) (hl : as.length + (r.length + 1) ≤ 2) (h0 : 0 ≤ a) (h1 : a < 4294967296)  :
   Kon w (.ref 344) [.bytes b bt, .int ad ta] 9 news (fun K9 => ∀ ax t1 b1 t2, (BI b1 = RW (as ++ [ad]) (flatW r)) → (∀ p ∈ news, p.1 < ax) → K9 (.ref ax) ((ax, Obj.mk (.type "tuple") none (.seq #[.int a t1, .bytes b1 t2]) #[]) :: news))  :=
  Con.kon (next_hi w b bt as a r ad ta news hb hl h0 h1) (by
    rintro K9 g9 r9 N9 ⟨v0, v1, v2, v3, rfl, rfl, v4, v5⟩
    exact g9 v0 v1 v2 v3 v4 v5)
theorem next_lo_k (w : World) (b : Array UInt8) (bt : TC) (as : List Int) (ad : Int) (ta : TC) (news : Led) (hb : BI b = RW as (flatW [])) (hl : as.length ≤ 2)  :
   Kon w (.ref 344) [.bytes b bt, .int ad ta] 9 news (fun K9 =>  K9 (.none) (news))  :=
  Con.kon (next_lo w b bt as ad ta news hb hl) (by
    rintro K9 g9 r9 N9 ⟨rfl, rfl⟩
    exact g9)
theorem reg_p24d_0 : True := by
  k_with "kba_size" => first | assumption | k_extra "size" | ((simp only [List.length_cons, List.length_nil, List.length_append, List.length_replicate, RW_len, flatW_len]); lia)
  k_with "call ref" => (k_here; (with_reducible show wpAny _ _ (call (Value.ref 330) _) _ _ _); k_dflt (refine' Kon.go ?_ ?_ ?_ ?_ ?_ ?_ ?_ ?_ ?_ ?_; walk_at "side 0"; (any_goals ((with_reducible show Kon _ _ _ _ _ _); exact (recorded_a_k _ _ _ _ _ _ (by assumption) (by (simp only [RW_len, flatW_len, List.length_nil]; lia)) (by assumption)))); walk_at "side 9"); intro _ _ _ _ _ _ _ _ _)
  k_with "call ref" => (k_here; (with_reducible show wpAny _ _ (call (Value.ref 344) _) _ _ _); k_dflt (refine' Kon.go ?_ ?_ ?_ ?_ ?_ ?_ ?_ ?_ ?_ ?_; walk_at "side 0"; (any_goals ((with_reducible show Kon _ _ _ _ _ _); exact (next_hi_k _ _ _ _ _ _ _ _ _ (by assumption) (by assumption) (by assumption) (by assumption)))); walk_at "side 9"); intro _ _ _ _ _ _ _ _ l1' _; (try k_lt l1'))
  k_with "call ref" => (k_here; (with_reducible show wpAny _ _ (call (Value.ref 344) _) _ _ _); k_dflt (refine' Kon.go ?_ ?_ ?_ ?_ ?_ ?_ ?_ ?_ ?_ ?_; walk_at "side 0"; (any_goals ((with_reducible show Kon _ _ _ _ _ _); exact (next_lo_k _ _ _ _ _ _ _ (by assumption) (by lia)))); walk_at "side 9"); intro _ _ _ _)
  k_with "call builtin:bytes.join" => (k_here; (with_reducible show wpAny _ _ (call (Value.builtin "bytes.join") [Value.bytes _ _, Value.ref _]) _ _ _); k_dflt (refine' b_joinW ?N ?m ?z1 ?z2 ?l ?_; (case N => assumption); (case m => k_mem); (case z1 => assumption); (case z2 => assumption); (case l => assumption); intro _ _ _ _))
  k_with "exec For Name Call cons nil" => (k_here; (with_unfolding_all refine' For_turns (by assumption) ?_; k_whole))
  trivial

/-! _law_way_right -/
theorem reg_p25_0 : True := by
  k_with "binaryOp Pow int int" => (k_here; (try dsimp only); (with_reducible refine pow_int_small ?kb1 ?kb2 ?kb3 ?_); (case kb1 => decide); (case kb2 => decide); (case kb3 => decide); (try dsimp only))
  trivial
theorem ints_getI : ∀ {vs : List Value} {ns : List Int} {i : Nat} {v : Value}, IntsAre vs ns → vs[i]? = some v → ∃ t, v = .int (ns.getD i 0) t ∧ i < ns.length
  | _, _, 0, _, .cons n t h, e => by
    simp only [List.getElem?_cons_zero, Option.some.injEq] at e
    exact ⟨t, e.symm, by simp⟩
  | _, _, i + 1, _, .cons n t h, e => by
    simp only [List.getElem?_cons_succ] at e
    obtain ⟨t', e1, e2⟩ := ints_getI h e
    exact ⟨t', by simpa using e1, by simpa using e2⟩
theorem nm_srcO {o : Obj} (_ : SrcO o) : ∃ y, y = o := ⟨o, rfl⟩
theorem nm_le {a b : Int} (_ : a ≤ b) : ∃ y, y = b := ⟨b, rfl⟩
theorem nm_BI {b : Array UInt8} {l : List Int} (_ : BI b = l) : ∃ y, y = b := ⟨b, rfl⟩
theorem w32_aux {n x : Int} {i : Nat} {us : List Value} {t : TC} (h : IntsAre us ((w32 n).take i)) (e : (w32 n).take (i + 1) = (w32 n).take i ++ [x]) : IntsAre (us ++ [.int x t]) ((w32 n).take (i + 1)) := by
  rw [e]; exact ints_snoc h
theorem w32_a0 (n : Int) : (w32 n).take (0 + 1) = (w32 n).take 0 ++ [n / (2 ^ Int.toNat 24) % 256] := by
  rw [show (2 : Int) ^ Int.toNat 24 = 16777216 from by decide, show n / 16777216 % 256 = n / 65536 / 256 % 256 from by lia]; rfl
theorem w32_a1 (n : Int) : (w32 n).take (0 + 1 + 1) = (w32 n).take (0 + 1) ++ [n / (2 ^ Int.toNat 16) % 256] := by
  rw [show (2 : Int) ^ Int.toNat 16 = 65536 from by decide]; rfl
theorem w32_a2 (n : Int) : (w32 n).take (0 + 1 + 1 + 1) = (w32 n).take (0 + 1 + 1) ++ [n / (2 ^ Int.toNat 8) % 256] := by
  rw [show (2 : Int) ^ Int.toNat 8 = 256 from by decide]; rfl
theorem w32_a3 (n : Int) : (w32 n).take (0 + 1 + 1 + 1 + 1) = (w32 n).take (0 + 1 + 1 + 1) ++ [n / (2 ^ Int.toNat 0) % 256] := by
  rw [show (2 : Int) ^ Int.toNat 0 = 1 from by decide, Int.ediv_one]; rfl
noncomputable def law_way_c_S (z : Fra × World × Addr × Obj × Led) : Prop :=
  (fun (F9 : Fra) (w : World) (src : Addr) (o : Obj) (rest : Led) => ∀ (ho : SrcO o), ∀ (hne : ∀ p ∈ rest, p.1 ≠ src), BodKC w 457 [.ref src] (Str.ofString "source")  14 ((src, o) :: rest) (fun r N => ∃ o', N = (src, o') :: rest ∧ SrcO o' ∧ r = .bool true) F9) (z.1) (z.2.1) (z.2.2.1) (z.2.2.2.1) (z.2.2.2.2)
@[irreducible] noncomputable def law_way_c_z : Fra × World × Addr × Obj × Led := wit (fra0, wrl0, 0, listOf #[] 0, []) law_way_c_S
namespace law_way_c_
@[irreducible] noncomputable def F9 : Fra := law_way_c_z.1
@[irreducible] noncomputable def w : World := law_way_c_z.2.1
@[irreducible] noncomputable def src : Addr := law_way_c_z.2.2.1
@[irreducible] noncomputable def o : Obj := law_way_c_z.2.2.2.1
@[irreducible] noncomputable def rest : Led := law_way_c_z.2.2.2.2
theorem run : ∀ (ho : SrcO o), ∀ (hne : ∀ p ∈ rest, p.1 ≠ src), BodKC w 457 [.ref src] (Str.ofString "source")  14 ((src, o) :: rest) (fun r N => ∃ o', N = (src, o') :: rest ∧ SrcO o' ∧ r = .bool true) F9 := by
  intro ho hne
  refine' BodKC.enter ?ho ?hb ?_; (case ho => k_is); (case hb => first | (dsimp only [List.map, List.zip, List.zipWith]; done) | (dsimp only [List.map, List.zip, List.zipWith]; exact rfl))
  intro B' F' X' N' dc' T' hd hu l1 hPE hnx hret; (try k_lt l1)
  k_steps
  rename (IsRange _ _ _ _ _ _ _ _) => rg
  rename (SrcO _) => hS
  rename Fr _ _ _ _ => lF
  rename News _ _ _ _ => lN
  rename_i h1 tk1 lFa o2 d2 td2 hd1 hd2 lNa h2 tk2 t1 u1 v1 hkp
  clear lFa lNa
  refine comp_rangeU (σ := Obj × List Int) (n := (1 + d2).toNat) (fun c => (src, c.1) :: (F9.L + 1, F9.co) :: rest) (fun i ys c => SrcO c.1 ∧ IntsAre ys c.2 ∧ c.2.length = i ∧ InA c.2) (o2, []) rfl rfl rfl rfl rg (small_0 (by lia) (by lia)) (rangeSize_0 (by lia)) lF lN (by rw [sizeLine_eq]; lia) (by decide) rfl rfl ⟨hS, .nil, rfl, fun _ h => nomatch h⟩ ?cturn ?cdone
  case cturn =>
    rintro i t ys ⟨o9, as9⟩ I oI C oC D m₂ h tk E' hi ⟨hS9, hI9, hl9, hA9⟩ hn hx1 F₁ N₁ off ⟨ne1, ne2, ne3⟩
    clear lF lN
    dsimp only [CBody]
    dsimp only at hS9 hI9 hl9 hA9 F₁ N₁ off
    have ns0 : F9.L + 1 ≠ src := Nat.ne_of_gt (Nat.lt_succ_of_lt l1.1)
    have hq : ∀ p ∈ (I, oI) :: (C, oC) :: (D, LCg.lst ys) :: (F9.L + 1, F9.co) :: rest, p.1 ≠ src := by
      have z := off _ (.head _)
      intro p hp
      rcases List.mem_cons.mp hp with rfl | hp
      · exact Ne.symm z.1
      rcases List.mem_cons.mp hp with rfl | hp
      · exact Ne.symm z.2.1
      rcases List.mem_cons.mp hp with rfl | hp
      · exact Ne.symm z.2.2
      rcases List.mem_cons.mp hp with rfl | hp
      · exact ns0
      · exact hne p hp
    k_steps
    rename Fr _ _ _ _ => F'
    rename News _ _ _ _ => N'
    rename (SrcO _) => hSx
    rename (0 ≤ _) => hv1
    rename (_ < 4294967296) => hv2
    obtain ⟨ox, eA⟩ := nm_srcO hSx
    subst eA
    obtain ⟨vx, eA⟩ := nm_le hv1
    subst eA
    refine cend ((src, ox) :: (F9.L + 1, F9.co) :: rest) F' N' (fun p hp => ?_) (fun p hp => ?_) ⟨(ox, as9 ++ [vx]), rfl, hSx, ints_snoc hI9, by rw [List.length_append, List.length_singleton, hl9], inA_snoc hA9 hv1 hv2⟩
    · simp only [List.mem_cons] at hp ⊢
      rcases hp with rfl | rfl | rfl | rfl | rfl | hp <;> simp_all
    · rcases List.mem_cons.mp hp with rfl | hp
      · exact off (src, o9) (.head _)
      · exact off p (.tail _ hp)
  case cdone =>
    rintro D ys ⟨o9, as9⟩ h tk ⟨hS9, hI9, hl9, hA9⟩ F₁ N₁ off
    clear lF lN
    dsimp only at hS9 hI9 hl9 hA9 F₁ N₁ off
    try k_fold
    k_steps
    rename Fr _ _ _ _ => lF
    rename News _ _ _ _ => lN
    obtain ⟨way, hway⟩ : ∃ way, way = D := ⟨_, rfl⟩
    refine comp_cell (σ := List (Array UInt8 × TC)) (ax := D) (vs := ys) (nn := ys.length) (fun _ => _) (fun i zs c => zs = c.map (fun q => .bytes q.1 q.2) ∧ c.map (fun q => BI q.1) = (as9.take i).map w32) [] rfl lF lN (fun _ => .head _) rfl rfl (by rw [hI9.length, hl9, sizeLine_eq]; lia) (fun _ => rfl) rfl rfl ⟨rfl, rfl⟩ ?wturn ?wdone
    case wturn =>
      rintro i v zs c I oI C oC A2 K oK m₂ h tk E' hv ⟨hz1, hz2⟩ hn hK F₁ N₁ off hoK ⟨ne1, ne2, ne3⟩
      clear lF lN
      obtain ⟨tv, rfl, hil⟩ := ints_getI hI9 hv
      have hin := getD_inA hA9 hil
      obtain ⟨n9, hn9⟩ : ∃ n9, n9 = as9.getD i 0 := ⟨_, rfl⟩
      rw [← hn9] at hv hK hin
      k_steps
      rename Fr _ _ _ _ => lF2
      rename News _ _ _ _ => lN2
      rename (I < _ ∧ _) => lz2
      refine comp_seq (σ := Unit) (nn := 0) (fun _ => _) (fun i us _ => IntsAre us ((w32 n9).take i)) () rfl lF2 lN2 (fun _ => .head _) rfl rfl (by rw [sizeLine_eq]; exact Nat.le_of_ble_eq_true rfl) (by decide) rfl .nil (fun _ _ _ _ => .inl ⟨_, _, rfl, rfl⟩) ?iturn ?idone
      case iturn =>
        rintro i2 v2 us c2 I2 oI2 C2 oC2 A3 m3 h3 tk3 E3 hv3 hP3 hn3 hb3 F3 N3 off3 ⟨ne4, ne5, ne6⟩
        clear lF2 lN2
        dsimp only [CBody]
        change m3 _ = some _ at hb3
        rcases i2 with _ | _ | _ | _ | i2 <;> simp only [List.getElem?_cons_zero, List.getElem?_cons_succ, List.getElem?_nil, Option.some.injEq, reduceCtorEq] at hv3
        · subst hv3
          k_steps
          exact cend _ F3 N3 (fun p hp => hp) off3 ⟨(), rfl, w32_aux hP3 (w32_a0 n9)⟩
        · subst hv3
          k_steps
          exact cend _ F3 N3 (fun p hp => hp) off3 ⟨(), rfl, w32_aux hP3 (w32_a1 n9)⟩
        · subst hv3
          k_steps
          exact cend _ F3 N3 (fun p hp => hp) off3 ⟨(), rfl, w32_aux hP3 (w32_a2 n9)⟩
        · subst hv3
          k_steps
          exact cend _ F3 N3 (fun p hp => hp) off3 ⟨(), rfl, w32_aux hP3 (w32_a3 n9)⟩
      case idone =>
        rintro D3 us c3 h3 tk3 hP3 F3 N3 off3
        clear lF2 lN2
        have hP4 : IntsAre us [n9 / 65536 / 256 % 256, n9 / 65536 % 256, n9 / 256 % 256, n9 % 256] := hP3
        clear hP3
        k_steps
        rename Fr _ _ _ _ => F'
        rename News _ _ _ _ => N'
        rename (BI _ = [n9 / 65536 / 256 % 256, _, _, _]) => hB4
        obtain ⟨b4, eA⟩ := nm_BI hB4
        subst eA
        have hB5 : BI b4 = w32 n9 := hB4
        refine cend ((K, oK) :: (D, LCg.lst ys) :: (src, o9) :: (F9.L + 1, F9.co) :: rest) F' N' (fun p hp => .tail _ (.tail _ hp)) off ⟨c ++ [(b4, ?tok)], rfl, hoK, ?e1, ?e2⟩
        case e1 => rw [hz1, List.map_append]; rfl
        case e2 =>
          rw [List.map_append, hz2, List.take_add_one, List.getElem?_eq_getElem hil, List.map_append]
          have e9 : as9[i] = n9 := by rw [hn9]; simp [hil]
          rw [e9, Option.toList_some, List.map_cons, List.map_cons, List.map_nil, List.map_nil, hB5]
    case wdone =>
      rintro A2 zs c h2 tk2 ⟨hz1, hz2⟩ F2 N2 off2
      clear lF lN
      rw [hI9.length, List.take_length] at hz2
      have hll : 1 ≤ as9.length ∧ as9.length ≤ 2 := by rw [hl9]; lia
      have hyl := hI9.length
      clear F₁ N₁
      k_steps
      rename (IsRange _ _ _ _ _ _ _ _) => rg2
      rename Fr _ _ _ _ => lF
      rename News _ _ _ _ => lN
      rename (BI _ = _ ++ flatW as9) => hBd
      obtain ⟨bd, eA⟩ := nm_BI hBd
      subst eA
      refine range_turns (σ := Array UInt8 × TC) (n := as9.length) (fun _ => (A2, LCg.lst zs) :: (D, LCg.lst ys) :: (src, o9) :: (F9.L + 1, F9.co) :: rest) (fun c => [(Str.ofString "octets", .bytes c.1 c.2)]) [Str.ofString "number", Str.ofString "told"]
        (fun i c => BI c.1 = RW ((List.range i).map fun (j : Nat) => 77 + (j : Int)) (flatW (as9.drop i))) (bd, _) rfl rg2 (small_0 (by lia) (by lia)) (by rw [rangeSize_0 (by lia)]; simp) lF lN (by kst_all) (hBd.trans rfl) ?turn ?done
      case turn =>
        rintro ⟨b9, t9⟩ i9 t10 u9 h9 tk9 own I hi hP hoff hlt ⟨hown, oI, hinI⟩ F₁ N₁
        clear lF lN
        dsimp only [kstB, envOf] at F₁ N₁ hoff hP
        obtain ⟨r9, hr9e⟩ : ∃ r9, r9 = rest ++ own := ⟨_, rfl⟩
        have N₂ := news_sub (l' := (A2, LCg.lst zs) :: (D, LCg.lst ys) :: (src, o9) :: (F9.L + 1, F9.co) :: r9) N₁ (fun p hp => by rw [hr9e] at hp; simpa using hp)
        clear N₁
        have hi9 : i9 < as9.length := by lia
        have z9 := getD_inA hA9 hi9
        obtain ⟨told, htold⟩ : ∃ told, told = (List.range i9).map fun (j : Nat) => 77 + (j : Int) := ⟨_, rfl⟩
        obtain ⟨tl, htl⟩ : ∃ tl, tl = as9.drop (i9 + 1) := ⟨_, rfl⟩
        have hP9 : BI b9 = RW told (flatW (as9.getD i9 0 :: tl)) := by
          rw [hP, htold, htl, List.drop_eq_getElem_cons hi9]
          simp [hi9]
        have hl9a : told.length + (tl.length + 1) ≤ 2 := by rw [htold, htl, List.length_map, List.length_range, List.length_drop]; lia
        have ei : (0 + (i9 : Int) * 1).toNat = i9 := by lia
        have z9a := z9.1
        have z9b := z9.2
        clear z9 hP
        have hne9 : ((RW (told ++ [77 + (0 + (i9 : Int) * 1)]) (flatW tl)).length : Int) = ((RW told (flatW (as9.getD i9 0 :: tl))).length : Int) := by
          simp only [RW_len, flatW_len, List.length_append, List.length_cons, List.length_nil]; lia
        have heq9 : as9.getD i9 0 = as9.getD (0 + (i9 : Int) * 1).toNat 0 := by rw [ei]
        k_steps
        all_goals first
          | exact absurd heq9 (by assumption)
          | exact absurd hne9 (by assumption)
          | skip
        rename (BI _ = RW (told ++ _) _) => hBn
        obtain ⟨bn, eA⟩ := nm_BI hBn
        subst eA
        rename News _ _ _ _ => nE
        have hfin : BI bn = RW ((List.range (i9 + 1)).map fun (j : Nat) => 77 + (j : Int)) (flatW (as9.drop (i9 + 1))) := by
          rw [range_snoc, ← htold, ← htl, hBn, show (77 : Int) + (0 + (i9 : Int) * 1) = 77 + (i9 : Int) from by lia]
        exact tend ⟨bn, _⟩ (by assumption) nE (by intro p hp; rw [hr9e]; simp only [List.mem_cons, List.mem_append] at hp ⊢; grind) (by intro p hp; rw [hr9e]; simp only [List.mem_cons, List.mem_append] at hp ⊢; grind) hoff (by kst_all) (by ksw_same) hfin
      case done =>
        rintro ⟨b9, t9⟩ u9 h9 tk9 hP F₁ N₁
        clear lF lN
        dsimp only [kstB, envOf] at F₁ N₁ hP
        rw [List.drop_length] at hP
        obtain ⟨told, htold⟩ : ∃ told, told = (List.range as9.length).map fun (j : Nat) => 77 + (j : Int) := ⟨_, rfl⟩
        rw [← htold] at hP
        have hP2 : BI b9 = RW told [] := hP
        have htl : told.length ≤ 2 := by rw [htold, List.length_map, List.length_range]; exact hll.2
        have hIt : InA told := fun x hx => by
          rw [htold] at hx
          obtain ⟨j, hj, rfl⟩ := List.mem_map.mp hx
          have := List.mem_range.mp hj
          lia
        try k_fold
        k_steps
        rename (IsRange _ _ _ _ _ _ _ _) => rg3
        rename Fr _ _ _ _ => lF3
        rename News _ _ _ _ => lN3
        rename (IntsAre _ told) => hIr
        refine comp_range (σ := Unit) (n := as9.length) (fun _ => _) (fun i us _ => IntsAre us ((List.range i).map fun (j : Nat) => 77 + (j : Int))) () rfl rg3 (small_0 (by lia) (by lia)) (by rw [rangeSize_0 (by lia)]; simp) lF3 lN3 (by rw [sizeLine_eq]; lia) (by decide) rfl rfl .nil ?rturn ?rdone
        case rturn =>
          rintro i t us c I oI C oC D3 m₂ h tk E' hi hP hn hx1 F₁ N₁ off ⟨ne1, ne2, ne3⟩
          clear lF3 lN3
          dsimp only [CBody]
          k_steps
          rename Fr _ _ _ _ => F'
          rename News _ _ _ _ => N'
          refine cend _ F' N' (fun p hp => hp) off ⟨(), rfl, ?_⟩
          have e1 : (77 : Int) + (0 + (i : Int) * 1) = 77 + (i : Int) := by lia
          rw [range_snoc, ← e1]
          exact ints_snoc hP
        case rdone =>
          rintro D3 us c h tk hP F₁ N₁ off
          clear lF3 lN3
          rw [← htold] at hP
          k_steps
          ((try with_reducible refine hnx _ ?_); exact hret _ _ _ _ ⟨o9, rfl, hS9, by simp⟩ (by k_asm) (by first | k_asm | exact news_subL (by assumption) (by k_extra "sub") | exact news_sub (by assumption) (by intro p hp; (try simp only [List.mem_cons, List.mem_append] at hp ⊢); grind)))
end law_way_c_
theorem law_way_c (w : World) (src : Addr) (o : Obj) (rest : Led) (ho : SrcO o) (hne : ∀ p ∈ rest, p.1 ≠ src)  : Con w (.ref 457) [.ref src] 14 ((src, o) :: rest) (fun r N => ∃ o', N = (src, o') :: rest ∧ SrcO o' ∧ r = .bool true) := by
  refine' BodKC.con ?ho ?hcd ?hb ?hq ?hloc ?hcl ?hnd ?hco ?hgen ?hk ?hD (fun F9 => @wit_all _ (fra0, wrl0, 0, listOf #[] 0, []) law_way_c_S (by with_unfolding_all exact law_way_c_.run) (F9, w, src, o, rest) ho hne); (case ho => k_is); (case hcd => k_is); (case hb => first | (dsimp only [List.map, List.zip, List.zipWith]; done) | (dsimp only [List.map, List.zip, List.zipWith]; exact rfl)); (case hq => first | exact fun _ _ => BindsTo.of_eq rfl | (intro s7 X7; exact binds_K X7 rfl (by k_is) rfl rfl rfl)); (case hloc => exact rfl); (case hcl => exact fun _ => rfl); (case hnd => decide +kernel); (case hco => exact rfl); (case hgen => exact rfl); (case hk => exact rfl); (case hD => decide)

theorem law_way_c_k (w : World) (src : Addr) (o : Obj) (rest : Led) (ho : SrcO o) (hne : ∀ p ∈ rest, p.1 ≠ src)  :
   Kon w (.ref 457) [.ref src] 14 ((src, o) :: rest) (fun K9 => ∀ o', (SrcO o') → K9 (.bool true) ((src, o') :: rest))  :=
  Con.kon (law_way_c w src o rest ho hne) (by
    rintro K9 g9 r9 N9 ⟨v0, rfl, v1, rfl⟩
    exact g9 v0 v1)
theorem reg_p25_1 : True := by
  k_with "call ref" => (k_here; (with_reducible show wpAny _ _ (call (Value.ref 457) _) _ _ _); k_dflt (refine' KonT.go ?_ ?_ ?_ ?_ ?_ ?_ ?_ ?_ ?_ ?_; walk_at "side 1"; (any_goals ((with_reducible show Kon _ _ _ _ _ _); exact (law_way_c_k _ _ _ _ (by assumption) (by k_all)))); walk_at "side 9"); intro _ _ _ _ _ _)
  trivial

/-! what the law itself still needs: unpack_ip of octets that are good, a head with its options alone -/
theorem unpack_ok (w : World) (b : Array UInt8) (tb : TC) (h : Hdr) (ps z : List Int) (news : Led) (hb : BI b = pk h ps ++ z) (H : h.Ok) (hO : InB h.options) (hl : ps.length ≤ 60000) (hz : z.length ≤ 1000) :
   Con w (.ref 236) [.bytes b tb] 8 news (fun r N => ∃ ax x dx c u b1 b2 t2, r = .ref ax ∧ N = (ax, Obj.mk (.type "tuple") none (.seq [Value.ref x, .bytes b2 t2].toArray) #[]) :: (x, instObj 183 dx) :: (dx, dictOf (hdrV w c u b1 h) 10) :: news ∧
     BI b1 = h.options ∧ BI b2 = ps ∧ dx < x ∧ x < ax ∧ ∀ p ∈ news, p.1 < dx) := by
  have n1 := H.n1
  have hpl := pk_len h ps
  refine (unpack_ip_c w b tb _ news hb (by rw [List.length_append]; lia)).toCon (fun n => n (ipGood_hH H hO ps z hl)) ?_
  rintro r N ⟨ax, x, dx, c, u, b1, b2, t2, e1, e2, h1, h2, _, l3, l2, l1⟩
  have hh : hdrOf (pk h ps ++ z) = h := by rw [pk_eq, List.append_assoc]; exact hdrOf_hH H _ _
  rw [hh] at e2 h1
  rw [rest_hH H ps z hl] at h2
  exact ⟨ax, x, dx, c, u, b1, b2, t2, e1, e2, h1, h2, l3, l2, l1⟩
/-- a contract for a call with words -/
noncomputable def ConK (w : World) (f : Value) (args : List Value) (kw : List (Str × Value)) (D : Nat) (N₀ : Led) (Post : Value → Led → Prop) : Prop :=
  ∀ (dp un : Nat) (gd : Option (List Code)) (cn : Str) (cs : Scope) (a : Addr) (ccd : Value) (cl : List (Str × Addr)) (outer : List Env) (A₀ : Around) (base h₀ : Heap) (L : Addr) (m : Str → Option Value) (s : Shared) (Q E : Value → Shared → Prop)
   (p : Program) (loose : List Str) (mean : ExcName → Option Value) (mg mb : Str → Option Value),
    Below A₀ base outer h₀ → Fr h₀ L s.heap m → (Mine.hk.heap_1 w.params).In h₀ → News h₀ L s.heap N₀ → Top p loose mean mg mb h₀ → cs.kind = .function →
    dp + D < recursionLimit → un + 8 * D < cLine →
    (∀ r N₁ h' tk', Post r N₁ → Fr h₀ L h' m → News h₀ L h' N₁ → Q r { s with heap := h', toks := tk' }) →
      wpAny (model PySem.Challenge.rw_nu0131_01.row.prog w) (ktrTop dp un gd cn cs L a ccd cl outer) (call f args kw) Q E s
theorem ConK.use {w : World} {f : Value} {args : List Value} {kw : List (Str × Value)} {D : Nat} {N₀ : Led} {Post : Value → Led → Prop} (C : ConK w f args kw D N₀ Post)
  {dp un : Nat} {gd : Option (List Code)} {cn : Str} {cs : Scope} {a : Addr} {ccd : Value} {cl : List (Str × Addr)} {outer : List Env} {A₀ : Around} {base h₀ : Heap} {L : Addr} {m : Str → Option Value} {s : Shared} {Q E : Value → Shared → Prop}
  {p : Program} {loose : List Str} {mean : ExcName → Option Value} {mg mb : Str → Option Value}
    (B : Below A₀ base outer h₀) (F : Fr h₀ L s.heap m) (X : (Mine.hk.heap_1 w.params).In h₀) (N : News h₀ L s.heap N₀) (T : Top p loose mean mg mb h₀) (hk : cs.kind = .function)
    (hd : dp + D < recursionLimit) (hu : un + 8 * D < cLine)
    (ret : ∀ r N₁ h' tk', Post r N₁ → Fr h₀ L h' m → News h₀ L h' N₁ → Q r { s with heap := h', toks := tk' }) :
      wpAny (model PySem.Challenge.rw_nu0131_01.row.prog w) (ktrTop dp un gd cn cs L a ccd cl outer) (call f args kw) Q E s :=
  C dp un gd cn cs a ccd cl outer A₀ base h₀ L m s Q E p loose mean mg mb B F X N T hk hd hu ret
theorem hdr_kw_c (w : World) (t1 t2 t3 : TC) (b : Array UInt8) (tb : TC) (ks : List Int) (news : Led) (hb : BI b = ks) (hk : ks.length = 3 ∨ ks.length = 44) :
   ConK w (.ref 183) [.int 1 t1, .int 2 t2, .int 17 t3] [(Str.ofString "options", .bytes b tb)] 3 news (fun r N => ∃ x dx c u h, r = .ref x ∧ N = (x, instObj 183 dx) :: (dx, dictOf (hdrV w c u b h) 10) :: news ∧
     BI b = h.options ∧ ({ h with options := [] } : Hdr).Ok ∧ (h.options.length % 4 ≠ 0 ∨ 40 < h.options.length) ∧ h.options.length ≤ 100 ∧ dx < x ∧ ∀ p ∈ news, p.1 < dx) := by
  unfold ConK
  k_fill
  intro dp un gd cn cs a ccd cl outer A₀ base h₀ L m s Q E p loose mean mg mb B F X N T hk hd hu hret
  k_dflt (refine' call_cls ?k1 ?k2 ?k3 ?k4 ?k5 ?k6 ?_; (case k1 => k_asm); (case k2 => k_asm); (case k3 => k_asm); (case k4 => k_is); (case k5 => k_is); (case k6 => k_is); k_whole; intro x' d' h' F' N' l1 l2; k_lt2 l2)
  k_dflt (refine' code_def ?k1 ?k2 ?k3 ?k4 ?k5 ?kA ?kF ?kK ?k6 ?k7 ?k8 ?k9 ?kB ?_ ?c2 ?c3 ?c4 ?c5; (case kA => exact rfl); (case kF => exact rfl); (case kK => assumption); (case k1 => k_asm); (case k2 => k_asm); (case k3 => k_asm); (case k4 => k_asm); (case k5 => k_asm); (case k6 => k_is); (case k7 => k_is); (case k8 => ktr_room); (case k9 => first | exact BindsTo.of_eq rfl | exact binds_K (by k_in) rfl (by k_is) rfl rfl rfl); (case c5 => decide); (case kB => exact locs rfl); (case c2 => exact rfl); (case c3 => exact rfl); (case c4 => exact rfl); k_whole; intro g' L' h' FG' F' N' B' X' T'; (try dsimp only); (try k_fold))
  k_steps
  exact hret _ _ _ _ ⟨_, _, tks [_, _, _, _, _, _, _, _, _, _], tks [_, _, _, _, _, _, _, _], ⟨1, 2, 17, 0, 64, 0, false, false, 0, ks⟩, rfl, rfl, hb, by constructor <;> (dsimp only; first | lia | decide | simp), by dsimp only; lia, by dsimp only; lia, l2, l1⟩ (by k_asm) (by k_asm)
theorem ne_int_same {prog : Program} {w : World} {A : Around} {E : Value → Shared → Prop} {s : Shared} {Q : Value → Shared → Prop} {a : Int} {t u : Tok} (h : Q (.bool false) s) : wpAny (model prog w) A (compareOp .NotEq (.int a t) (.int a u)) Q E s := ne_int (by simpa using h)
theorem unpack_ok_k (w : World) (b : Array UInt8) (tb : TC) (h : Hdr) (ps z : List Int) (news : Led) (hb : BI b = pk h ps ++ z) (H : h.Ok) (hO : InB h.options) (hl : ps.length ≤ 60000) (hz : z.length ≤ 1000)  :
   Kon w (.ref 236) [.bytes b tb] 8 news (fun K9 => ∀ ax x dx c u b1 b2 t2, (BI b1 = h.options) → (BI b2 = ps) → (dx < x) → (x < ax) → (∀ p ∈ news, p.1 < dx) → K9 (.ref ax) ((ax, Obj.mk (.type "tuple") none (.seq [Value.ref x, .bytes b2 t2].toArray) #[]) :: (x, instObj 183 dx) :: (dx, dictOf (hdrV w c u b1 h) 10) :: news))  :=
  Con.kon (unpack_ok w b tb h ps z news hb H hO hl hz) (by
    rintro K9 g9 r9 N9 ⟨v0, v1, v2, v3, v4, v5, v6, v7, rfl, rfl, v8, v9, v10, v11, v12⟩
    exact g9 v0 v1 v2 v3 v4 v5 v6 v7 v8 v9 v10 v11 v12)
theorem reg_p25a_0 : True := by
  k_with "exec For Name List cons nil" => (k_here; (with_unfolding_all refine' For_turns (by assumption) ?_ (hE := by first | assumption | passes_own); k_whole))
  k_with "k_all" => (refine' List.forall_mem_cons.mpr ⟨?ka, ?kb⟩; (case ka => k_ne); (case kb => k_all))
  k_with "compareOp NotEq int int" => (k_here; (with_reducible refine ne_int_same ?_); (try dsimp only))
  k_with "call ref" => (k_here; (with_reducible show wpAny _ _ (call (Value.ref 236) _) _ _ _); k_dflt (refine' Kon.go ?_ ?_ ?_ ?_ ?_ ?_ ?_ ?_ ?_ ?_; walk_at "side 0"; (any_goals ((with_reducible show Kon _ _ _ _ _ _); exact (unpack_ok_k _ _ _ _ _ _ _ (by assumption) (by assumption) (by assumption) (by lia) (by first | lia | (rw [List.length_replicate]; lia))))); walk_at "side 9"); intro _ _ _ _ _ _ _ _ _ _ _ _ _ l3' l2' l1' _; (try k_lt l1'); (try k_lt2 l2'); (try k_lt2 l3'))
  k_with "call ref" => (k_here; (with_reducible show wpAny _ _ (call (Value.ref 183) [_, _, _] _) _ _ _); k_dflt (refine' ConK.use (hdr_kw_c _ _ _ _ _ _ _ _ ?z1 ?z2) ?B ?F ?X ?N ?T ?hk ?hd ?hu ?_; (case B => k_asm); (case F => k_asm); (case X => k_asm); (case N => k_asm); (case T => k_asm); (case hk => first | exact rfl | assumption); (case hd => ktr_room); (case hu => ktr_units); (case z1 => assumption); (case z2 => first | exact .inl rfl | exact .inr rfl)); intro _ _ _ _ hP' _ _; obtain ⟨x', dx', c', u', h', eq1', eq2', hb', hH', hn0', hn1', l2', l1'⟩ := hP'; replace eq1' := Eq.symm eq1'; subst eq1'; replace eq2' := Eq.symm eq2'; subst eq2'; (try k_lt l1'); (try k_lt2 l2'); (try dsimp only))
  trivial

/-! law -/
theorem envC_cell {nm : Str} {sc : Scope} {L a : Addr} {cd : Value} {x : Str} (hs : cellsFrom (L + 1) sc.names [] = [(x, L + 1)]) : envOfC nm sc L a cd = envX nm sc L a cd [(x, L + 1)] := by
  unfold envOfC
  rw [hs]
theorem keepPE {prog : Program} {w : World} {A : Around} {env : Env} {E : Value → Shared → Prop} {s : Shared} {body : List Stmt} {Q : Flow → Shared → Prop} (hE : PassesOwn (model prog w) A env E) (h : PassesOwn (model prog w) A env E → wpAny (model prog w) A (execs body env) Q E s) : wpAny (model prog w) A (execs body env) Q E s := h hE
theorem nm_ok {h : Hdr} (_ : h.Ok) : ∃ y, y = h := ⟨h, rfl⟩
theorem nm_data {o : Obj} {d : Data} (_ : o.data = d) : ∃ y, y = o := ⟨o, rfl⟩
theorem news_gen {g h : Heap} {L src : Addr} {o : Obj} {rest : Led} (N : News g L h ((src, o) :: rest)) : ∃ a r, a = src ∧ r = rest ∧ News g L h ((a, o) :: r) := ⟨src, rest, rfl, rfl, N⟩
theorem mem2 {a b : Addr × Obj} {l r : Led} (e : r = a :: b :: l) : b ∈ r := by rw [e]; exact .tail _ (.head _)
theorem mem3 {a b c : Addr × Obj} {l r : Led} (e : r = a :: b :: c :: l) : c ∈ r := by rw [e]; exact .tail _ (.tail _ (.head _))
theorem mem4 {a b c d : Addr × Obj} {l r : Led} (e : r = a :: b :: c :: d :: l) : d ∈ r := by rw [e]; exact .tail _ (.tail _ (.tail _ (.head _)))
theorem inB_snoc {as : List Int} {a : Int} (h : InB as) (h0 : 0 ≤ a) (h1 : a < 256) : InB (as ++ [a]) := fun x hx => (List.mem_append.mp hx).elim (h x) fun z => by rw [List.mem_singleton.mp z]; exact ⟨h0, by lia⟩
theorem news_keep2 {g h : Heap} {L : Addr} {a b : Addr × Obj} {l r : Led} (N : News g L h (a :: b :: l)) (hr : ∀ p ∈ r, p ∈ l) : News g L h (a :: b :: r) := news_sub N fun p hp => by
  rcases List.mem_cons.mp hp with rfl | hp
  · exact .head _
  rcases List.mem_cons.mp hp with rfl | hp
  · exact .tail _ (.head _)
  · exact .tail _ (.tail _ (hr p hp))
theorem mem_keep {a b c d : Addr × Obj} {r own r9 : Led} (e : r9 = r ++ own) : ∀ p ∈ a :: b :: r, p ∈ c :: d :: a :: b :: r9 := by
  intro p hp
  rw [e]
  simp only [List.mem_cons, List.mem_append] at hp ⊢
  rcases hp with h | h | h
  · exact .inr (.inr (.inl h))
  · exact .inr (.inr (.inr (.inl h)))
  · exact .inr (.inr (.inr (.inr (.inl h))))
theorem mem_own {a b c d : Addr × Obj} {r own r9 : Led} (e : r9 = r ++ own) : ∀ p ∈ own, p ∈ c :: d :: a :: b :: r9 := by
  intro p hp
  rw [e]
  simp only [List.mem_cons, List.mem_append]
  exact .inr (.inr (.inr (.inr (.inr hp))))
theorem news_app3 {g h : Heap} {L : Addr} {a b : Addr × Obj} {r own : Led} (N : News g L h ((a :: b :: r) ++ own)) : News g L h (a :: b :: (r ++ own)) := N
/-- the ground's frame: no other frame above it -/
abbrev frG (F : Fra) : Fra := ⟨F.dp, F.un, F.gd, [], F.A₀, F.g, F.g, F.L, F.s, F.R, F.E, F.p, F.loose, F.mean, F.mg, F.mb, F.co⟩
/-- BodKC for a body whose function object lies anywhere -/
noncomputable def BodKX (w : World) (f f' : Addr) (cdv : Value) (args : List Value) (x : Str) (D : Nat) (N₀ : Led) (Post : Value → Led → Prop) (F : Fra) : Prop :=
  BodC w (fdOf (Mine.hk.heap_1 w.params) f).qualname (fdOf (Mine.hk.heap_1 w.params) f).scope f' cdv (stOf (fdOf (Mine.hk.heap_1 w.params) f)) (bnOf (fdOf (Mine.hk.heap_1 w.params) f) args) x D N₀ Post F
theorem BodKX.is {w : World} {args : List Value} {x : Str} {D : Nat} {N₀ : Led} {Post : Value → Led → Prop} {F : Fra} {f' : Addr} {cdv' : Value}
    {name qual : Str} {params : Arguments} {body : List Stmt} {scope : Scope} {dV kV doc pm cdv ct oc : Value} {an od : Option Addr} {osl : Array (Option Value)} {f : Addr} {binds : List (Str × Value)}
    (ho : (Mine.hk.heap_1 w.params).lookup f = some ⟨oc, od, .func (fnOf name qual params body scope dV kV doc pm an cdv ct), osl⟩) (hb : (params.args.map (·.arg)).zip args = binds) :
    BodKX w f f' cdv' args x D N₀ Post F ↔ BodC w qual scope f' cdv' body binds x D N₀ Post F := by
  unfold BodKX; rw [fdOf_is ho]; subst hb; exact Iff.rfl
theorem BodKX.enter {w : World} {args : List Value} {x : Str} {D : Nat} {N₀ : Led} {Post : Value → Led → Prop} {F : Fra} {f' : Addr} {cdv' : Value}
    {name qual : Str} {params : Arguments} {body : List Stmt} {scope : Scope} {dV kV doc pm cdv ct oc : Value} {an od : Option Addr} {osl : Array (Option Value)} {f : Addr} {binds : List (Str × Value)}
    (ho : (Mine.hk.heap_1 w.params).lookup f = some ⟨oc, od, .func (fnOf name qual params body scope dV kV doc pm an cdv ct), osl⟩) (hb : (params.args.map (·.arg)).zip args = binds)
    (h : BodC w qual scope f' cdv' body binds x D N₀ Post F) : BodKX w f f' cdv' args x D N₀ Post F := (BodKX.is ho hb).mpr h
noncomputable def law_body_c_S (z : Fra × World × Addr × Addr × Addr × List Value × List Int) : Prop :=
  (fun (F9 : Fra) (w : World) (la : Addr) (fa : Addr) (cw : Addr) (vs : List Value) (ns : List Int) => ∀ (hIA : IntsAre vs ns), ∀ (hlen : ns.length ≤ 63), ∀ (hIL : F9.g.IsList la vs.toArray), BodKX w 469 fa (.ref cw) [.ref la] (Str.ofString "source")  20 [] (fun r N => r = .bool true) (frG F9)) (z.1) (z.2.1) (z.2.2.1) (z.2.2.2.1) (z.2.2.2.2.1) (z.2.2.2.2.2.1) (z.2.2.2.2.2.2)
@[irreducible] noncomputable def law_body_c_z : Fra × World × Addr × Addr × Addr × List Value × List Int := wit (fra0, wrl0, 0, 0, 0, [], []) law_body_c_S
namespace law_body_c_
@[irreducible] noncomputable def F9 : Fra := law_body_c_z.1
@[irreducible] noncomputable def w : World := law_body_c_z.2.1
@[irreducible] noncomputable def la : Addr := law_body_c_z.2.2.1
@[irreducible] noncomputable def fa : Addr := law_body_c_z.2.2.2.1
@[irreducible] noncomputable def cw : Addr := law_body_c_z.2.2.2.2.1
@[irreducible] noncomputable def vs : List Value := law_body_c_z.2.2.2.2.2.1
@[irreducible] noncomputable def ns : List Int := law_body_c_z.2.2.2.2.2.2
theorem run : ∀ (hIA : IntsAre vs ns), ∀ (hlen : ns.length ≤ 63), ∀ (hIL : F9.g.IsList la vs.toArray), BodKX w 469 fa (.ref cw) [.ref la] (Str.ofString "source")  20 [] (fun r N => r = .bool true) (frG F9) := by
  intro hIA hlen hIL
  refine' BodKX.enter ?ho ?hb ?_; (case ho => k_is); (case hb => first | (dsimp only [List.map, List.zip, List.zipWith]; done) | (dsimp only [List.map, List.zip, List.zipWith]; exact rfl))
  intro B' F' X' N' dc' T' hd hu l1 hPE hnx hret; (try k_lt l1)
  dsimp only [frG] at B' F' X' N' dc' T' hd hu l1 hPE hnx hret ⊢
  k_steps
  rename (IsRange _ _ _ _ _ _ _ _) => rg
  rename Fr _ _ _ _ => lF
  rename News _ _ _ _ => lN
  rename (SrcO _) => hS
  rename (_ ∈ ([0, 1, 8, 15] : List Int)) => hv
  rename (BI _ = _) => hBo
  rename (Hdr.Ok _) => hOk
  obtain ⟨hh, eA⟩ := nm_ok hOk
  subst eA
  have n1 := hOk.n1
  obtain ⟨o2, eA⟩ := nm_srcO hS
  subst eA
  obtain ⟨src, rest, eA, hrest, lN2⟩ := news_gen lN
  subst eA
  rename (src < _ ∧ _) => lz
  rename (src < _) => ls1
  have lz1 := lz.1
  obtain ⟨dx, eA⟩ := nm_lt ls1
  subst eA
  rename (dx < _) => ls2
  obtain ⟨x, eA⟩ := nm_lt ls2
  subst eA
  have ls3 := Nat.lt_trans ls1 ls2
  have hq : ∀ p ∈ rest, p.1 ≠ src := by
    rw [hrest]
    intro p hp
    simp only [List.mem_cons, List.not_mem_nil, or_false] at hp
    rcases hp with rfl | rfl | rfl | rfl <;> first | exact Nat.ne_of_gt lz1 | exact Nat.ne_of_gt ls1 | exact Nat.ne_of_gt ls3 | exact Nat.ne_of_lt (by assumption)
  rename Int => vn
  have hvn : 0 ≤ vn ∧ vn ≤ 15 := by
    simp only [List.mem_cons, List.not_mem_nil, or_false] at hv
    lia
  obtain ⟨oc, eA⟩ := nm_data (by assumption : _ = Data.cell (some (Value.ref src)))
  subst eA
  have mx := mem2 hrest
  have md := mem3 hrest
  have mc := mem4 hrest
  have hO := inB_of hBo
  clear hv hrest
  refine comp_range (σ := Obj × List Int) (n := vn.toNat) (fun c => (src, c.1) :: rest) (fun i ys c => SrcO c.1 ∧ IntsAre ys c.2 ∧ c.2.length = i ∧ InB c.2) (o2, []) rfl rg (small_0 (by lia) (by lia)) (rangeSize_0 (by lia)) lF lN2 (by rw [sizeLine_eq]; lia) (by decide) rfl rfl ⟨hS, .nil, rfl, fun _ h => nomatch h⟩ ?pturn ?pdone
  all_goals (clear lz lz1 lF lN lN2 rg)
  all_goals (clear hIA hlen hIL)
  all_goals ( (repeat (rename Fr _ _ _ _ => z9; clear z9)); (repeat (rename News _ _ _ _ => z9; clear z9)))
  case pturn =>
    rintro i t ys ⟨o9, as9⟩ I oI C oC D m₂ h tk E' hi ⟨hS9, hI9, hl9, hA9⟩ hn hx1 F₁ N₁ off ⟨ne1, ne2, ne3⟩
    dsimp only [CBody]
    dsimp only at hS9 hI9 hl9 hA9 F₁ N₁ off
    have z1 : @Ne Nat src I := (off _ (.head _)).1
    have z2 : @Ne Nat src C := (off _ (.head _)).2.1
    have z3 : @Ne Nat src D := (off _ (.head _)).2.2
    k_steps
    rename Fr _ _ _ _ => F'
    rename News _ _ _ _ => N'
    rename (SrcO _) => hSx
    rename (0 ≤ _) => hv1
    rename (_ < 256) => hv2
    obtain ⟨ox, eA⟩ := nm_srcO hSx
    subst eA
    obtain ⟨vx, eA⟩ := nm_le hv1
    subst eA
    refine cend ((src, ox) :: rest) F' N' (fun p hp => ?_) (fun p hp => ?_) ⟨(ox, as9 ++ [vx]), rfl, hSx, ints_snoc hI9, by rw [List.length_append, List.length_singleton, hl9], inB_snoc hA9 hv1 hv2⟩
    · simp only [List.mem_cons] at hp ⊢
      rcases hp with rfl | rfl | rfl | rfl | hp <;> simp_all
    · rcases List.mem_cons.mp hp with rfl | hp
      · exact off (src, o9) (.head _)
      · exact off p (.tail _ hp)
  case pdone =>
    rintro D ys ⟨o9, as9⟩ h tk ⟨hS9, hI9, hl9, hA9⟩ F₁ N₁ off
    dsimp only at hS9 hI9 hl9 hA9 F₁ N₁ off
    have hpk := pk_len hh as9
    have hpl : as9.length ≤ 15 := by lia
    have z3 : @Ne Nat src D := off _ (.head _)
    k_steps
    rename Fr _ _ _ _ => lF
    rename News _ _ _ _ => lN
    rename (BI _ = List.replicate (Int.toNat 44) 0) => hb44
    rename (BI _ = List.replicate (Int.toNat 3) 0) => hb3
    obtain ⟨b3, eA⟩ := nm_BI hb3
    subst eA
    obtain ⟨b44, eA⟩ := nm_BI hb44
    subst eA
    rename (SrcO _) => hSx
    obtain ⟨ox, eA⟩ := nm_srcO hSx
    subst eA
    rename (src < _ ∧ _) => zl
    obtain ⟨la, eA⟩ := nm_lt zl.1
    subst eA
    have zs : @Ne Nat src la := Nat.ne_of_lt zl.1
    have lN2 := news_keep2 (r := rest) lN (by intro p hp; repeat (first | exact hp | refine List.mem_cons_of_mem _ ?_))
    clear lN zl
    (repeat (rename (_ < _ ∧ _) => z9; clear z9))
    refine seq_turns (σ := Unit) (fun _ => _ :: _ :: rest) (fun _ => []) [Str.ofString "options"] (fun _ _ => True) () rfl lF lN2 (.head _) (.inl rfl) rfl (fun _ hp => nomatch hp) trivial ?oturn ?odone
    case oturn =>
      intro c9 i9 v9 u9 h9 tk9 own I hv hP hoff hlt hown F₁ N₁
      clear lF lN2
      dsimp only [kstB, envX] at F₁ N₁
      have he : BI #[] = [] := rfl
      obtain ⟨r9, hr9⟩ : ∃ r9, r9 = rest ++ own := ⟨_, rfl⟩
      have N₂ := news_app3 N₁
      rw [← hr9] at N₂
      clear N₁
      try k_fold
      rcases i9 with _ | _ | i9
      · obtain rfl := Option.some.inj hv
        k_steps
        rename News _ _ _ _ => nE
        change TEnd _ _ _ _ _ _ _
        exact tend () (by assumption) nE (by exact mem_keep hr9) (by exact mem_own hr9) hoff (by first | kst_all | exact (fun _ hp => nomatch hp)) (by ksw_same) (by trivial)
      · obtain rfl := Option.some.inj hv
        k_steps
        rename News _ _ _ _ => nE
        change TEnd _ _ _ _ _ _ _
        exact tend () (by assumption) nE (by exact mem_keep hr9) (by exact mem_own hr9) hoff (by first | kst_all | exact (fun _ hp => nomatch hp)) (by ksw_same) (by trivial)
      · cases hv
    case odone =>
      intro c9 u9 h9 tk9 hP F₁ N₁
      clear lF lN2
      dsimp only [kstB, envX] at F₁ N₁
      try k_fold
      k_steps
      ((try with_reducible refine hnx _ ?_); exact hret _ _ _ _ rfl (by assumption) (by k_asm))
end law_body_c_
theorem law_body_c_all : ∀ z, law_body_c_S z := wit_all (x₀ := (fra0, wrl0, 0, 0, 0, [], [])) (P := law_body_c_S) (by with_unfolding_all exact law_body_c_.run)

theorem law_all.tw10024686837709580625 : True := trivial
theorem law_all.tw1006284481315042348 : True := trivial
theorem law_all.tw10075033275381536440 : True := trivial
theorem law_all.tw10090999975856555344 : True := trivial
theorem law_all.tw10145363553656391591 : True := trivial
theorem law_all.tw10253732280001569212 : True := trivial
theorem law_all.tw10294897870698960256 : True := trivial
theorem law_all.tw10297145265793509435 : True := trivial
theorem law_all.tw10309783463770545554 : True := trivial
theorem law_all.tw10340441938079615943 : True := trivial
theorem law_all.tw10344729229328920165 : True := trivial
theorem law_all.tw10382579582808609351 : True := trivial
theorem law_all.tw10425333190776739551 : True := trivial
theorem law_all.tw10427768884268684552 : True := trivial
theorem law_all.tw10486281728991561039 : True := trivial
theorem law_all.tw10495323473316150548 : True := trivial
theorem law_all.tw10575808222751662728 : True := trivial
theorem law_all.tw10632998686855480601 : True := trivial
theorem law_all.tw10780945830723714241 : True := trivial
theorem law_all.tw10808177503072308079 : True := trivial
theorem law_all.tw10834972849280226571 : True := trivial
theorem law_all.tw10842723371336156597 : True := trivial
theorem law_all.tw10969439180591476309 : True := trivial
theorem law_all.tw10972643930856128791 : True := trivial
theorem law_all.tw11020806828292283134 : True := trivial
theorem law_all.tw11085147635474315433 : True := trivial
theorem law_all.tw11090485264053204359 : True := trivial
theorem law_all.tw11126621595802289062 : True := trivial
theorem law_all.tw1115311737908471259 : True := trivial
theorem law_all.tw11156016171303442314 : True := trivial
theorem law_all.tw1115970785884932992 : True := trivial
theorem law_all.tw11169120883424520007 : True := trivial
theorem law_all.tw11185291794543270386 : True := trivial
theorem law_all.tw11194228370837134999 : True := trivial
theorem law_all.tw11195006048519719982 : True := trivial
theorem law_all.tw11208032702916000851 : True := trivial
theorem law_all.tw11239549508614699967 : True := trivial
theorem law_all.tw11283148420750326516 : True := trivial
theorem law_all.tw11316630271383740818 : True := trivial
theorem law_all.tw11378994670534948722 : True := trivial
theorem law_all.tw11464865452401227656 : True := trivial
theorem law_all.tw11549886222698464505 : True := trivial
theorem law_all.tw11566998951525393313 : True := trivial
theorem law_all.tw11575233253633470811 : True := trivial
theorem law_all.tw11587524997120335971 : True := trivial
theorem law_all.tw11596821628577882342 : True := trivial
theorem law_all.tw11660793784710997211 : True := trivial
theorem law_all.tw1166129813771130549 : True := trivial
theorem law_all.tw11779399842900871346 : True := trivial
theorem law_all.tw11819635365892184359 : True := trivial
theorem law_all.tw11821130883310013321 : True := trivial
theorem law_all.tw11833566044642688545 : True := trivial
theorem law_all.tw11836482064631991793 : True := trivial
theorem law_all.tw11911069920064303837 : True := trivial
theorem law_all.tw11950572846344460284 : True := trivial
theorem law_all.tw11953936395949465439 : True := trivial
theorem law_all.tw11968179528029030403 : True := trivial
theorem law_all.tw11977895914950762854 : True := trivial
theorem law_all.tw11978475443051844996 : True := trivial
theorem law_all.tw11981917482434212799 : True := trivial
theorem law_all.tw1200807466883419909 : True := trivial
theorem law_all.tw12012145143388645040 : True := trivial
theorem law_all.tw12040030575716422517 : True := trivial
theorem law_all.tw12051850038722144316 : True := trivial
theorem law_all.tw12055539081176029090 : True := trivial
theorem law_all.tw1216541509919387563 : True := trivial
theorem law_all.tw12168520589393599259 : True := trivial
theorem law_all.tw12240263347232697027 : True := trivial
theorem law_all.tw12308355309068749982 : True := trivial
theorem law_all.tw12309555987426629805 : True := trivial
theorem law_all.tw12355723463077577103 : True := trivial
theorem law_all.tw12415205634060267573 : True := trivial
theorem law_all.tw1244168298268136379 : True := trivial
theorem law_all.tw12481217338035120217 : True := trivial
theorem law_all.tw12491990524712166927 : True := trivial
theorem law_all.tw12507762813244862470 : True := trivial
theorem law_all.tw12539917319762660869 : True := trivial
theorem law_all.tw12578298129586543361 : True := trivial
theorem law_all.tw12610587468927266379 : True := trivial
theorem law_all.tw12613626564643572922 : True := trivial
theorem law_all.tw12685006382546950688 : True := trivial
theorem law_all.tw12703074045546933829 : True := trivial
theorem law_all.tw12716768839138057736 : True := trivial
theorem law_all.tw12719020962863150717 : True := trivial
theorem law_all.tw12729013581757030507 : True := trivial
theorem law_all.tw12733668576097638289 : True := trivial
theorem law_all.tw12760510453615215998 : True := trivial
theorem law_all.tw12795914074852961918 : True := trivial
theorem law_all.tw12836747770095448064 : True := trivial
theorem law_all.tw12880530043633816451 : True := trivial
theorem law_all.tw1288270072008814257 : True := trivial
theorem law_all.tw12961678295145188246 : True := trivial
theorem law_all.tw13008198028515782221 : True := trivial
theorem law_all.tw13048455256248648906 : True := trivial
theorem law_all.tw13050402135260733356 : True := trivial
theorem law_all.tw13061075394575644761 : True := trivial
theorem law_all.tw1317780672425346132 : True := trivial
theorem law_all.tw13211181752546427078 : True := trivial
theorem law_all.tw13242965595582236870 : True := trivial
theorem law_all.tw13274840464982359763 : True := trivial
theorem law_all.tw13367176642022358155 : True := trivial
theorem law_all.tw1347740606709914761 : True := trivial
theorem law_all.tw1348223827413200919 : True := trivial
theorem law_all.tw13515836412680247291 : True := trivial
theorem law_all.tw13531483092564520072 : True := trivial
theorem law_all.tw13699687274142533169 : True := trivial
theorem law_all.tw1373718396076105583 : True := trivial
theorem law_all.tw13760851721862378156 : True := trivial
theorem law_all.tw13794602993731048600 : True := trivial
theorem law_all.tw13833317127055801060 : True := trivial
theorem law_all.tw13838683757722122955 : True := trivial
theorem law_all.tw13846950719819077829 : True := trivial
theorem law_all.tw13963356664251284108 : True := trivial
theorem law_all.tw13985060576507940359 : True := trivial
theorem law_all.tw13989974958611873218 : True := trivial
theorem law_all.tw14007897523862953668 : True := trivial
theorem law_all.tw14022319627245857414 : True := trivial
theorem law_all.tw14058198244844264512 : True := trivial
theorem law_all.tw1408806660432250928 : True := trivial
theorem law_all.tw14112813277465929817 : True := trivial
theorem law_all.tw14115007137499183204 : True := trivial
theorem law_all.tw14161950200463332022 : True := trivial
theorem law_all.tw14174517074612190596 : True := trivial
theorem law_all.tw14384918623772240547 : True := trivial
theorem law_all.tw14396964315094823396 : True := trivial
theorem law_all.tw14427759038551237300 : True := trivial
theorem law_all.tw14437242743615798716 : True := trivial
theorem law_all.tw14448975606232184337 : True := trivial
theorem law_all.tw14483480384061991028 : True := trivial
theorem law_all.tw14512922981909422826 : True := trivial
theorem law_all.tw14512998406604165487 : True := trivial
theorem law_all.tw14578468027487938174 : True := trivial
theorem law_all.tw14640322939972922974 : True := trivial
theorem law_all.tw14643942157258506644 : True := trivial
theorem law_all.tw14690459059760270787 : True := trivial
theorem law_all.tw14783403437535847111 : True := trivial
theorem law_all.tw14813995537974290954 : True := trivial
theorem law_all.tw14816879207175617225 : True := trivial
theorem law_all.tw1487786111206980130 : True := trivial
theorem law_all.tw14966067393961270158 : True := trivial
theorem law_all.tw14991419344657449139 : True := trivial
theorem law_all.tw14998430357298625318 : True := trivial
theorem law_all.tw15041844750066439977 : True := trivial
theorem law_all.tw15053150841094675366 : True := trivial
theorem law_all.tw15102585243479572927 : True := trivial
theorem law_all.tw15111771918000721386 : True := trivial
theorem law_all.tw15175368528575537740 : True := trivial
theorem law_all.tw15222793665863523046 : True := trivial
theorem law_all.tw15256493282736253867 : True := trivial
theorem law_all.tw1526100267518658005 : True := trivial
theorem law_all.tw15275527861284700546 : True := trivial
theorem law_all.tw15327138436386969399 : True := trivial
theorem law_all.tw15593007144086314798 : True := trivial
theorem law_all.tw15627020587669677704 : True := trivial
theorem law_all.tw15638214500589831823 : True := trivial
theorem law_all.tw15640896081885072018 : True := trivial
theorem law_all.tw15649952513613631697 : True := trivial
theorem law_all.tw15696156366995490489 : True := trivial
theorem law_all.tw15743857825236497588 : True := trivial
theorem law_all.tw15775596325662777338 : True := trivial
theorem law_all.tw15816446151563789378 : True := trivial
theorem law_all.tw15817853144674484978 : True := trivial
theorem law_all.tw15881968454215721113 : True := trivial
theorem law_all.tw1592464377872422232 : True := trivial
theorem law_all.tw15982079766070313398 : True := trivial
theorem law_all.tw15988576510117618290 : True := trivial
theorem law_all.tw15991014356718627131 : True := trivial
theorem law_all.tw15994752243992478524 : True := trivial
theorem law_all.tw16074868582555063224 : True := trivial
theorem law_all.tw16084122824873582314 : True := trivial
theorem law_all.tw16108003277724382137 : True := trivial
theorem law_all.tw16317050728709778059 : True := trivial
theorem law_all.tw16348121039232670680 : True := trivial
theorem law_all.tw16371026202757247076 : True := trivial
theorem law_all.tw16389678097679539626 : True := trivial
theorem law_all.tw16413752452701970063 : True := trivial
theorem law_all.tw16436836394604217106 : True := trivial
theorem law_all.tw16577843217576899742 : True := trivial
theorem law_all.tw16611412123790042429 : True := trivial
theorem law_all.tw16654605471950451980 : True := trivial
theorem law_all.tw16736700015079776020 : True := trivial
theorem law_all.tw16741880675132489432 : True := trivial
theorem law_all.tw16745809935298821572 : True := trivial
theorem law_all.tw16768936007509957499 : True := trivial
theorem law_all.tw16802804513485658213 : True := trivial
theorem law_all.tw1682832674239571567 : True := trivial
theorem law_all.tw16831322107450627596 : True := trivial
theorem law_all.tw16838179679014408406 : True := trivial
theorem law_all.tw1684386024576819110 : True := trivial
theorem law_all.tw168551618296024960 : True := trivial
theorem law_all.tw1702886262042523489 : True := trivial
theorem law_all.tw17035568942905013000 : True := trivial
theorem law_all.tw17073913150402608559 : True := trivial
theorem law_all.tw17074971947010181610 : True := trivial
theorem law_all.tw17120200779325065073 : True := trivial
theorem law_all.tw17135547795266049317 : True := trivial
theorem law_all.tw17138794587834298416 : True := trivial
theorem law_all.tw17215917983952657280 : True := trivial
theorem law_all.tw17238692654854937651 : True := trivial
theorem law_all.tw17240311926567722313 : True := trivial
theorem law_all.tw17311543511305506410 : True := trivial
theorem law_all.tw17413550076941298003 : True := trivial
theorem law_all.tw17459176674885784516 : True := trivial
theorem law_all.tw17535888986555872392 : True := trivial
theorem law_all.tw17544309013383418247 : True := trivial
theorem law_all.tw17610193108198147946 : True := trivial
theorem law_all.tw17613353281601113540 : True := trivial
theorem law_all.tw17633126580248655646 : True := trivial
theorem law_all.tw17657424406159520245 : True := trivial
theorem law_all.tw17671693468899418834 : True := trivial
theorem law_all.tw17676645770964659787 : True := trivial
theorem law_all.tw17699220586243776058 : True := trivial
theorem law_all.tw17749092094045793073 : True := trivial
theorem law_all.tw17769878892396552597 : True := trivial
theorem law_all.tw18049563021733404900 : True := trivial
theorem law_all.tw18069371669798473238 : True := trivial
theorem law_all.tw1809502294756820286 : True := trivial
theorem law_all.tw18180275025638004960 : True := trivial
theorem law_all.tw1819660966834464121 : True := trivial
theorem law_all.tw18223944042725728250 : True := trivial
theorem law_all.tw18313445508184284481 : True := trivial
theorem law_all.tw18369321035705266579 : True := trivial
theorem law_all.tw18383949787495555429 : True := trivial
theorem law_all.tw18402216632963273465 : True := trivial
theorem law_all.tw18437768301239656569 : True := trivial
theorem law_all.tw18438550808169337630 : True := trivial
theorem law_all.tw185478952616494882 : True := trivial
theorem law_all.tw1908834790331025158 : True := trivial
theorem law_all.tw1909231634321623422 : True := trivial
theorem law_all.tw1988555749612562791 : True := trivial
theorem law_all.tw2126261026752179203 : True := trivial
theorem law_all.tw2140227923923951564 : True := trivial
theorem law_all.tw2154737406897626791 : True := trivial
theorem law_all.tw2161507521139017325 : True := trivial
theorem law_all.tw2225694422541459837 : True := trivial
theorem law_all.tw2238069962009214901 : True := trivial
theorem law_all.tw2313850143442069465 : True := trivial
theorem law_all.tw2355731226331693373 : True := trivial
theorem law_all.tw2406078263742745528 : True := trivial
theorem law_all.tw2425498562415444253 : True := trivial
theorem law_all.tw2440259602994764050 : True := trivial
theorem law_all.tw2465578340897827915 : True := trivial
theorem law_all.tw2466386354987971064 : True := trivial
theorem law_all.tw2525653633432605389 : True := trivial
theorem law_all.tw254210294449290986 : True := trivial
theorem law_all.tw2560851641824476598 : True := trivial
theorem law_all.tw2619257411496593575 : True := trivial
theorem law_all.tw2721814648045382242 : True := trivial
theorem law_all.tw2746415857694854958 : True := trivial
theorem law_all.tw2763200530551224835 : True := trivial
theorem law_all.tw2791512771193701167 : True := trivial
theorem law_all.tw2818472761355251851 : True := trivial
theorem law_all.tw2872085493576920064 : True := trivial
theorem law_all.tw2885707341163702077 : True := trivial
theorem law_all.tw289511000256421866 : True := trivial
theorem law_all.tw2897607846274201091 : True := trivial
theorem law_all.tw2919649542600381882 : True := trivial
theorem law_all.tw2942426997265644656 : True := trivial
theorem law_all.tw29785838706219937 : True := trivial
theorem law_all.tw3012268511640468390 : True := trivial
theorem law_all.tw3015541545424464467 : True := trivial
theorem law_all.tw3049941219963327188 : True := trivial
theorem law_all.tw3105058145372789786 : True := trivial
theorem law_all.tw3116252448390264038 : True := trivial
theorem law_all.tw31263012393092130 : True := trivial
theorem law_all.tw3207115444309807146 : True := trivial
theorem law_all.tw3258365602563983348 : True := trivial
theorem law_all.tw3261250254779219729 : True := trivial
theorem law_all.tw3263060017730090603 : True := trivial
theorem law_all.tw3284748957273996875 : True := trivial
theorem law_all.tw3296963836593520940 : True := trivial
theorem law_all.tw3325111520719290175 : True := trivial
theorem law_all.tw3328231346644923771 : True := trivial
theorem law_all.tw3416886346130291467 : True := trivial
theorem law_all.tw3426539022656043222 : True := trivial
theorem law_all.tw34981568851968291 : True := trivial
theorem law_all.tw3507598022155300935 : True := trivial
theorem law_all.tw3602784471345507114 : True := trivial
theorem law_all.tw3647167244474244301 : True := trivial
theorem law_all.tw3658401073832251761 : True := trivial
theorem law_all.tw3663503265976199116 : True := trivial
theorem law_all.tw3672090284324724409 : True := trivial
theorem law_all.tw3707600311073335261 : True := trivial
theorem law_all.tw3728958221131766131 : True := trivial
theorem law_all.tw3740185271146487245 : True := trivial
theorem law_all.tw374766727668220859 : True := trivial
theorem law_all.tw3806819470392062991 : True := trivial
theorem law_all.tw3813577191599259775 : True := trivial
theorem law_all.tw3826946535189723318 : True := trivial
theorem law_all.tw3903515962272563663 : True := trivial
theorem law_all.tw3983192056104361193 : True := trivial
theorem law_all.tw404534946110283943 : True := trivial
theorem law_all.tw4073406199993252850 : True := trivial
theorem law_all.tw4105255371170773908 : True := trivial
theorem law_all.tw4182408002180818360 : True := trivial
theorem law_all.tw4289236661132030044 : True := trivial
theorem law_all.tw4338267340049963969 : True := trivial
theorem law_all.tw4408054295985219607 : True := trivial
theorem law_all.tw4449761216389261190 : True := trivial
theorem law_all.tw4513022563276176288 : True := trivial
theorem law_all.tw4545471796157021838 : True := trivial
theorem law_all.tw4547236602926478784 : True := trivial
theorem law_all.tw4629605032302363013 : True := trivial
theorem law_all.tw4638716497167235156 : True := trivial
theorem law_all.tw4663659113027530946 : True := trivial
theorem law_all.tw4771868648470891126 : True := trivial
theorem law_all.tw4800166454244708440 : True := trivial
theorem law_all.tw4959470712613272833 : True := trivial
theorem law_all.tw498969334165971575 : True := trivial
theorem law_all.tw5007728179111998763 : True := trivial
theorem law_all.tw5019339126340234733 : True := trivial
theorem law_all.tw5058365699104195747 : True := trivial
theorem law_all.tw5099097261256123588 : True := trivial
theorem law_all.tw5124336459398086462 : True := trivial
theorem law_all.tw51366843150158886 : True := trivial
theorem law_all.tw5179392843673144026 : True := trivial
theorem law_all.tw5199301434253951998 : True := trivial
theorem law_all.tw5285307726481897559 : True := trivial
theorem law_all.tw5332743953270975010 : True := trivial
theorem law_all.tw5386138778478946084 : True := trivial
theorem law_all.tw5391715999942285979 : True := trivial
theorem law_all.tw5403677533733193846 : True := trivial
theorem law_all.tw5429858767254799258 : True := trivial
theorem law_all.tw5467091673537627360 : True := trivial
theorem law_all.tw5483578599265696199 : True := trivial
theorem law_all.tw5542367601281971411 : True := trivial
theorem law_all.tw5591302951066050737 : True := trivial
theorem law_all.tw5621885739728775620 : True := trivial
theorem law_all.tw569701484050765398 : True := trivial
theorem law_all.tw5810238935025566227 : True := trivial
theorem law_all.tw5914833246583547866 : True := trivial
theorem law_all.tw5923626274025043023 : True := trivial
theorem law_all.tw5945882358115643694 : True := trivial
theorem law_all.tw5947366203799548357 : True := trivial
theorem law_all.tw5962365601980372440 : True := trivial
theorem law_all.tw6022211634629375331 : True := trivial
theorem law_all.tw623384496221371744 : True := trivial
theorem law_all.tw6281336798887741830 : True := trivial
theorem law_all.tw6317846471518068684 : True := trivial
theorem law_all.tw6352045179492744985 : True := trivial
theorem law_all.tw6355135678535457092 : True := trivial
theorem law_all.tw644193453371022997 : True := trivial
theorem law_all.tw645013614473375241 : True := trivial
theorem law_all.tw6471123649784635168 : True := trivial
theorem law_all.tw6513319782983348548 : True := trivial
theorem law_all.tw6550320685308687620 : True := trivial
theorem law_all.tw6564360385875737041 : True := trivial
theorem law_all.tw6592884879708733306 : True := trivial
theorem law_all.tw6723525195617269812 : True := trivial
theorem law_all.tw6775264209203825292 : True := trivial
theorem law_all.tw6818535541638068524 : True := trivial
theorem law_all.tw6821728593225765917 : True := trivial
theorem law_all.tw6945231640579222094 : True := trivial
theorem law_all.tw7049779834799297369 : True := trivial
theorem law_all.tw7093450904264552785 : True := trivial
theorem law_all.tw711021382710547372 : True := trivial
theorem law_all.tw7188791813448049371 : True := trivial
theorem law_all.tw7209142699435546151 : True := trivial
theorem law_all.tw7212004210353247336 : True := trivial
theorem law_all.tw7219402698325937587 : True := trivial
theorem law_all.tw7241301525396740710 : True := trivial
theorem law_all.tw7244142420057014546 : True := trivial
theorem law_all.tw7271498159299846290 : True := trivial
theorem law_all.tw7290121776363987770 : True := trivial
theorem law_all.tw7292434958787203408 : True := trivial
theorem law_all.tw7297819598837024618 : True := trivial
theorem law_all.tw7318158564511299729 : True := trivial
theorem law_all.tw7379131392961922385 : True := trivial
theorem law_all.tw7382394883274062982 : True := trivial
theorem law_all.tw7385059913978287034 : True := trivial
theorem law_all.tw740504054621376137 : True := trivial
theorem law_all.tw7416931893851735294 : True := trivial
theorem law_all.tw7424173207631694637 : True := trivial
theorem law_all.tw7424292630044055020 : True := trivial
theorem law_all.tw7433864658053558053 : True := trivial
theorem law_all.tw743412211500013303 : True := trivial
theorem law_all.tw7497220510776412333 : True := trivial
theorem law_all.tw7564772252293548769 : True := trivial
theorem law_all.tw7570389025846386837 : True := trivial
theorem law_all.tw7574916185476446870 : True := trivial
theorem law_all.tw7611737924060900042 : True := trivial
theorem law_all.tw7647884552941119451 : True := trivial
theorem law_all.tw7757561431791933054 : True := trivial
theorem law_all.tw7791439051762490624 : True := trivial
theorem law_all.tw7911531064090814180 : True := trivial
theorem law_all.tw796818876455020728 : True := trivial
theorem law_all.tw801417409540640141 : True := trivial
theorem law_all.tw8093662343118647261 : True := trivial
theorem law_all.tw8168923261793598374 : True := trivial
theorem law_all.tw8192627400900402444 : True := trivial
theorem law_all.tw8259473591719373357 : True := trivial
theorem law_all.tw8295653638501232855 : True := trivial
theorem law_all.tw8300226305660433357 : True := trivial
theorem law_all.tw8305597428437692698 : True := trivial
theorem law_all.tw8406315387685492880 : True := trivial
theorem law_all.tw8496572883052770167 : True := trivial
theorem law_all.tw8559622642134532576 : True := trivial
theorem law_all.tw857312800663944748 : True := trivial
theorem law_all.tw8585119295471724657 : True := trivial
theorem law_all.tw8587321083128229445 : True := trivial
theorem law_all.tw8595197912787149095 : True := trivial
theorem law_all.tw8645198988984335144 : True := trivial
theorem law_all.tw8652508824891024273 : True := trivial
theorem law_all.tw866766908457270551 : True := trivial
theorem law_all.tw8732206733074496467 : True := trivial
theorem law_all.tw8755279341700096616 : True := trivial
theorem law_all.tw8858638111541304496 : True := trivial
theorem law_all.tw892440070764786429 : True := trivial
theorem law_all.tw8937883705780218553 : True := trivial
theorem law_all.tw8986646422429841763 : True := trivial
theorem law_all.tw9036414278844654636 : True := trivial
theorem law_all.tw9135970852051700672 : True := trivial
theorem law_all.tw9144500139776326259 : True := trivial
theorem law_all.tw9310598725500422130 : True := trivial
theorem law_all.tw9337859482809679654 : True := trivial
theorem law_all.tw937055499877386264 : True := trivial
theorem law_all.tw9400421687833027045 : True := trivial
theorem law_all.tw9429942708143374130 : True := trivial
theorem law_all.tw9441140268209864922 : True := trivial
theorem law_all.tw9496831969247301946 : True := trivial
theorem law_all.tw9505956043534509327 : True := trivial
theorem law_all.tw9615829016262974664 : True := trivial
theorem law_all.tw9642360315720231220 : True := trivial
theorem law_all.tw9729604732972894722 : True := trivial
theorem law_all.tw9730515428898209248 : True := trivial
theorem law_all.tw9741297799410488584 : True := trivial
theorem law_all.tw9758465039191818689 : True := trivial
theorem law_all.tw9815603410090176864 : True := trivial
theorem law_all.tw9847930118418132646 : True := trivial
theorem law_all.tw9881681013793774600 : True := trivial
theorem law_all.tw9906353361400467681 : True := trivial
theorem law_all.tw9930186087560989292 : True := trivial
theorem law_all.tw9987792911408698340 : True := trivial
/-! the claim -/
theorem law_close {w : World} {la fa cw : Addr} {vs : List Value} {ns : List Int} {dp un : Nat} {gd : Option (List Code)} {A₀ : Around} {g : Heap} {L : Addr} {h : Heap} {gens : Array GenState} {drawn : Drawn} {tk : Nat} {os : OsState} {co : Obj} {R : Flow → Shared → Prop} {E : Value → Shared → Prop}
    {p : Program} {loose : List Str} {mean : ExcName → Option Value} {mg mb : Str → Option Value}
    {name qual : Str} {params : Arguments} {body : List Stmt} {scope : Scope} {dV kV doc pm cdv ct oc : Value} {an od : Option Addr} {osl : Array (Option Value)} {binds : List (Str × Value)}
    (ho : (Mine.hk.heap_1 w.params).lookup 469 = some ⟨oc, od, .func (fnOf name qual params body scope dV kV doc pm an cdv ct), osl⟩) (hb : (params.args.map (·.arg)).zip [Value.ref la] = binds)
    (hIA : IntsAre vs ns) (hlen : ns.length ≤ 63) (hIL : g.IsList la vs.toArray)
    (K1 : Below A₀ g [] g) (F0 : Fr g L h (bindL (envX qual scope L fa (.ref cw) [(Str.ofString "source", L + 1)]).kindOf binds fun _ => none)) (KX : (Mine.hk.heap_1 w.params).In g) (N0 : News g L h [(L + 1, co)])
    (dc : co.data = .cell (bindC (envX qual scope L fa (.ref cw) [(Str.ofString "source", L + 1)]).kindOf binds (fun _ => none) (Str.ofString "source"))) (T0 : Top p loose mean mg mb g)
    (hd : dp + 20 < recursionLimit + 1) (hu : un + 8 * 20 < cLine + 8)
    (hPE : PassesOwn (model PySem.Challenge.rw_nu0131_01.row.prog w) (ktrTop dp un gd qual scope L fa (.ref cw) [(Str.ofString "source", L + 1)] []) (envX qual scope L fa (.ref cw) [(Str.ofString "source", L + 1)]) E)
    (hnx : ∀ s', R (.ret .none) s' → R .next s')
    (hret : ∀ h' tk' m', Fr g L h' m' → R (.ret (.bool true)) ⟨h', gens, drawn, tk', os⟩) :
      wpAny (model PySem.Challenge.rw_nu0131_01.row.prog w) (ktrTop dp un gd qual scope L fa (.ref cw) [(Str.ofString "source", L + 1)] []) (execs body (envX qual scope L fa (.ref cw) [(Str.ofString "source", L + 1)])) R E ⟨h, gens, drawn, tk, os⟩ := by
  have a := @law_body_c_all (⟨dp, un, gd, [], A₀, g, g, L, ⟨h, gens, drawn, tk, os⟩, R, E, p, loose, mean, mg, mb, co⟩, w, la, fa, cw, vs, ns) hIA hlen hIL
  refine (BodKX.is ho hb).mp a K1 F0 KX N0 dc T0 hd hu (fun _ h => nomatch h) hPE hnx ?_
  intro m' r N₁ h' tk' hr F' _
  (try dsimp only at hr)
  subst hr
  exact hret _ _ _ F'
theorem cast_in {A B : Params → Frag} {P : Params} {h : Heap} (e : A = B) (x : (A P).In h) : (B P).In h := e ▸ x
set_option Elab.async true
theorem law_all : PySem.Challenge.rw_nu0131_01.Holds := by
  w_on; o_law; k_head; (case hw => w_witness2)
  k_go0
  (all_goals try k_fold)
  rename Shared => s₁
  rename (Below _ _ _ _) => K0
  rename (Fr _ _ _ _) => F0
  rename (News _ _ _ _) => N0
  rename CellsAre _ _ _ => X0
  rename (_ = Data.cell _) => hcell
  rename (Top _ _ _ _ _ _) => T0
  rename (Frag.In _ _) => KX9
  have KX := cast_in (B := Mine.hk.heap_1) (by kernel_rfl) KX9
  clear KX9
  rename (Heap.IsList _ _ _) => hIL
  rename (IntsAre _ _) => hIA
  rename (¬ _ < _) => hlen
  rename (_ = (#[] : Array _)) => hgens
  have K1 : Below callerA s₁.heap [] s₁.heap := K0
  have hQ : ∀ h tk m', Fr s₁.heap s₁.heap.objs.size h m' → qk (.ret (.bool true)) (Shared.mk h s₁.gens s₁.drawn tk s₁.os) := by
    intro h tk m' F'
    dsimp only [qk]
    wrow_close
  clear K0
  dsimp only at F0 hcell N0
  refine keepPE (by passes_own) (fun hPE => ?_)
  have hnx : ∀ s', qk (.ret .none) s' → qk .next s' := fun _ x => x
  clear_value qk ek
  dsimp only at hPE ⊢
  rw [envC_cell (x := Str.ofString "source") rfl] at hPE ⊢
  generalize hg0 : s₁.heap = g₀ at F0 N0 X0 T0 KX hIL K1 hQ hnx hPE ⊢
  generalize hg1 : g₀.objs.size = L at F0 N0 X0 hIL hQ hnx hPE ⊢
  generalize s₁.gens = g1 at hQ hnx ⊢
  generalize s₁.drawn = g2 at hQ hnx ⊢
  generalize s₁.os = g3 at hQ hnx ⊢
  clear X0
  (rename (Ground _ _ _ _ _ _ _ _ _) => z9; clear z9)
  (rename (Hook.says _ _ _) => z9; clear z9)
  (rename (Flt.MathXP _ _ _) => z9; clear z9)
  (rename (LooseAre _ _ _) => z9; clear z9)
  (rename (Glob _ _ _ _ _ _ _ _) => z9; clear z9)
  (rename (Tables _ _ _ _) => z9; clear z9)
  (rename (TopE _ _ _ _) => z9; clear z9)
  (rename (TopW _ _ _) => z9; clear z9)
  (rename (BMod _ _ _ _ _) => z9; clear z9)
  (rename (Heap.CodeRec _ _ _) => z9; clear z9)
  (rename (ReadsAll _ _ _ _) => z9; clear z9)
  (rename (Well _ _ _ _) => z9; clear z9)
  (rename (Reads _ _ _ _) => z9; clear z9)
  (rename (ReadsAllW _ _ _ _ _ _) => z9; clear z9)
  (rename (Dflts _ _ _ _ _ _) => z9; clear z9)
  refine' law_close ?zho ?zhb hIA (by lia) hIL K1 ?zf0 KX N0 ?zdc T0 ?zhd ?zhu ?zpe hnx ?zhr
  case zho => k_is
  case zhb => first | (dsimp only [List.map, List.zip, List.zipWith]; done) | (dsimp only [List.map, List.zip, List.zipWith]; exact rfl) | exact rfl
  case zpe => exact hPE
  case zf0 => exact F0
  case zdc => exact hcell
  case zhd => decide
  case zhu => first | decide | (have hcL9 := cLine_is; rw [hcL9]; decide) | (have hcL9 := cLine_is; dsimp only [callerA, Around.deeper]; omega)
  case zhr => exact fun _ _ _ F' => hQ _ _ _ F'

end Mine
theorem PySem.Challenge.cw_nu0131_01_holds : PySem.Challenge.rw_nu0131_01.Holds :=
  Mine.law_all
